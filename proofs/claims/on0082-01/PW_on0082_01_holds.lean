import PyProof.Rows.All
import Wide.All
import OpenK.AllK
import Wide.FinOn
import PyProof.WalksMore
import PyProof.ListNew
import Lean
import PySem.Challenge.RW_on0082_01

set_option Elab.async false

section
open PySem PySem.W PyProof.Rows
set_option Elab.async false
namespace Mine
theorem offHeadOn : True := by
  w_top off
  trivial
set_option maxRecDepth 100000
set_option maxHeartbeats 8000000
open_top hd for PySem.Challenge.rw_on0082_01
end Mine
end

section
open PySem PySem.W PyProof.Rows PySem.Calls
set_option Elab.async false
set_option maxRecDepth 100000
namespace Mine
theorem offMBase : True := by
  w_top off
  trivial
/-- the place around a call: no exception in hand, depth and units known to be small -/
abbrev Ard (dp un : Nat) (fr : List Env) (gd : Option (List Code)) : Around := { handled := none, depth := dp, frames := some fr, guards := gd, units := un }
/-- the base facts that every call needs -/
structure Base (w : World) (mean : ExcName → Option Value) (mg mb : Str → Option Value) (h : Heap) : Prop where
  K : (Mine.hd.heap_39 w.params).In h
  T : Top Mine.hd.view_39 (looseW Mine.hd.view_39 []) mean mg mb h
theorem Base.keeps {w mean mg mb} {h h' : Heap} (B : Base w mean mg mb h) (k : ∀ b o, h.get? b = some o → h'.get? b = some o) : Base w mean mg mb h' :=
  ⟨B.K.keeps k, B.T.keeps k⟩
/-- all but the addresses in l stay -/
def Stay (l : List Addr) (h h' : Heap) : Prop := ∀ b o, b ∉ l → h.get? b = some o → h'.get? b = some o
theorem Stay.refl (l : List Addr) (h : Heap) : Stay l h h := fun _ _ _ e => e
theorem Stay.trans {l : List Addr} {h h' h'' : Heap} (x : Stay l h h') (y : Stay l h' h'') : Stay l h h'' := fun b o hb e => y b o hb (x b o hb e)
theorem Stay.mono {l l' : List Addr} {h h' : Heap} (x : Stay l h h') (k : ∀ a ∈ l, a ∈ l') : Stay l' h h' := fun b o hb e => x b o (fun q => hb (k b q)) e
section
variable {w : World} {s : Shared} {mean : ExcName → Option Value} {mg mb : Str → Option Value} {A : Around} {Q E : Value → Shared → Prop}
  {name qual : Str} {params : Arguments} {body : List Stmt} {scope : Scope} {dV kV doc pm cdv ct oc : Value} {an od : Option Addr} {osl : Array (Option Value)} {f : Addr} {vals : List Value} {binds : List (Str × Value)}
theorem enter (cells : List (Addr × Obj)) (b₀ : Heap) (B : Base w mean mg mb b₀) (hk : ∀ b o, b₀.get? b = some o → s.heap.get? b = some o)
    (hc : ∀ p ∈ cells, s.heap.get? p.1 = some p.2) (hn : ∀ p ∈ cells, b₀.get? p.1 = none)
    (ho : (Mine.hd.heap_39 w.params).lookup f = some ⟨oc, od, .func (fnOf name qual params body scope dV kV doc pm an cdv ct), osl⟩) (hcd : codeIn (Mine.hd.heap_39 w.params) cdv qual = true) (hroom : A.depth < recursionLimit)
    (hbind : BindsTo s (fnOf name qual params body scope dV kV doc pm an cdv ct) ⟨vals, []⟩ binds) (hloc : ∀ y ∈ binds, scope.names.lookup y.1 = some .local)
    (h : ∀ g L' h₁, (∀ b o, g.get? b = some o → s.heap.get? b = some o) → Stay (cells.map (·.1)) s.heap g → Fr g L' h₁ (fun y => binds.reverse.lookup y) → News g L' h₁ cells → (Mine.hd.heap_39 w.params).In g → Top Mine.hd.view_39 (looseW Mine.hd.view_39 []) mean mg mb g →
      wpAny (model PySem.Challenge.rw_on0082_01.row.prog w) (A.deeper (envOf qual scope L' f cdv)) (execs body (envOf qual scope L' f cdv))
        (fun fl s' => Q (match fl with | .ret v => v | _ => .none) s') (fun _ _ => False)
        { s with heap := h₁, toks := s.toks + binds.length })
    (hco : scope.isCoroutine = false) (hgen : scope.isGenerator = false) (hkd : scope.kind = .function)
    (hcell : ∀ x ∈ scope.names, x.2 ≠ .cell) : wpAny (model PySem.Challenge.rw_on0082_01.row.prog w) A (call (.ref f) vals) Q E s := by
  have Bs := B.keeps hk
  refine wpAny_call (codeAny_call_def (fd := fnOf name qual params body scope dV kV doc pm an cdv ct) (body := body) (binds := binds) hroom (Bs.K _ _ ho) rfl Bs.T.nolimit (codeRec_of Bs.K hcd) rfl hbind hcell hloc (fun h₁ hns hk₁ => ?_) hco hgen hkd)
  have st : ∀ b o, b₀.get? b = some o → (hideAll s.heap (cells.map (·.1))).get? b = some o := fun b o e => hideAll_get _ (hk b o e) (fun q => by
    obtain ⟨p, hp, rfl⟩ := List.mem_map.mp q
    rw [hn p hp] at e; cases e)
  have Bg := B.keeps st
  refine wpAny_mono (h (hideAll s.heap (cells.map (·.1))) s.heap.objs.size h₁ (fun b o e => of_hideAll _ e) (fun b o hb e => hideAll_get _ e hb) ⟨hns, fun b o e => hk₁ b o (of_hideAll _ e), Nat.le_of_eq (hideAll_size _ _)⟩
    (fun p hp => ⟨hk₁ _ _ (hc p hp), Nat.ne_of_lt (Heap.lt_size (hc p hp)), hideAll_none _ (List.mem_map_of_mem hp)⟩) Bg.K Bg.T) (fun fl s' hl => ?_) (fun _ _ x => x.elim)
  exact hl
end
/-- a frame that ends: what stood before and is no cell stands still -/
theorem stay_of {l : List Addr} {h g h' : Heap} {L : Addr} {m : Str → Option Value} (st : Stay l h g) (F : Fr g L h' m) : Stay l h h' := fun b o hb e => F.keep b o (st b o hb e)
end Mine
end

section
open PySem PySem.W PyProof.Rows PySem.Calls
set_option Elab.async false
set_option maxRecDepth 100000
set_option maxHeartbeats 4000000
namespace Mine
theorem offTake : True := by
  w_top off
  trivial
set_option pp.deepTerms false
set_option pp.deepTerms.threshold 8
local macro_rules | `(tactic| units_room) => `(tactic| ((simp only [units_in1, units_deeper, Around.mark_units] at *); (have hcL9 := cLine_is); omega))
theorem fdiv_nn {a : Int} {n : Nat} (h : 0 ≤ a) : 0 ≤ a.fdiv (n : Int) := Int.fdiv_nonneg h (Int.natCast_nonneg n)
theorem fdiv_le_of {a : Int} {n : Nat} (h : 0 ≤ a) (h1 : a < 400) : a.fdiv (n : Int) ≤ 1000000 := by
  rw [Int.fdiv_eq_ediv_of_nonneg _ (Int.natCast_nonneg n)]
  have : a / (n : Int) ≤ a := Int.ediv_le_self _ h
  omega
theorem pow7_ne (k : Nat) : (7 : Int) ^ k ≠ 0 := Int.pow_ne_zero (by decide)
theorem most_ne {k : Int} (h : 1 ≤ k) : k ≠ 0 := by omega
theorem len_ne {ns : List Int} (h : decide (ns = []) = false) : (ns.length : Int) ≠ 0 := by
  have := of_decide_eq_false h
  intro e
  exact this (List.length_eq_zero_iff.mp (by omega))
section
variable {prog : Program} {w : World} {A : Around} {E : Value → Shared → Prop} {s : Shared} {p : Program} {loose : List Str} {mean : ExcName → Option Value} {mg mb : Str → Option Value} {g : Heap} {L : Addr} {m : Str → Option Value} {env : Env} {l : List Env}
theorem my_floordiv {a b : Int} {t u : Tok} {Q : Value → Shared → Prop} (F : Fr g L s.heap m) (T : Top p loose mean mg mb g) (hi : importsNone p = true) (hb : b ≠ 0) (hd : A.depth + Builtin.pylongFrames < recursionLimit) (ht : (model prog w).prog.given.tree = none)
    (hfr : A.frames = some (env :: l)) (hgen : env.scope.isGenerator = false) (hco : env.scope.isCoroutine = false) (hbb : env.builtins = builtinsNs) (hg : env.globals = mainGlobals)
    (h : Q (.int (a.fdiv b) s.toks) { s with toks := s.toks + 1 }) : wpAny (model prog w) A (binaryOp .FloorDiv (.int a t) (.int b u)) Q E s :=
  floordiv_int hb h (Or.inr (PySem.PylongRoom.of (PySem.Heap.NoLimit.keeps T.nolimit F.keep) hd (PySem.SeerAt.of (PySem.Heap.NoSeer.keeps (T.seer hi) F.keep) ht hfr hgen hco hbb hg)))
end
theorem my_item {prog : Program} {w : World} {A : Around} {E : Value → Shared → Prop} {s : Shared} {g : Heap} {L l : Addr} {m : Str → Option Value} {value slice : PySem.Expr} {vs : List Value} {ns : List Int} {a : Int} {u : Tok} {Q : Value → Shared → Prop}
    (F : Fr g L s.heap m) (hl : g.IsList l vs.toArray) (hi : IntsAre vs ns) (hne : decide (ns = []) = false) (hlen : ns.length ≤ 40) (h : ∀ k t, Q (.int k t) s)
    (hs : subscripted slice false (.ref l) (.int (a.fmod (ns.length : Int)) u) = operate [.ref l, .int (a.fmod (ns.length : Int)) u] (getItem (.ref l) (.int (a.fmod (ns.length : Int)) u)) := by with_unfolding_all rfl) :
    wpAny (model prog w) A (subscriptTail value slice (.ref l) (.int (a.fmod (ns.length : Int)) u)) Q E s := by
  have hn := len_ne hne
  have hp : (0 : Int) < ns.length := by omega
  have h0 : 0 ≤ a.fmod (ns.length : Int) := Int.fmod_nonneg_of_pos a hp
  have h1 : a.fmod (ns.length : Int) < ns.length := Int.fmod_lt_of_pos a hp
  have hl' : s.heap.IsList l vs.toArray := by
    obtain ⟨o, ho, r⟩ := hl
    exact ⟨o, F.keep l o ho, r⟩
  generalize a.fmod (ns.length : Int) = i at h0 h1 hs
  have hlt : i.toNat < ns.length := by omega
  obtain ⟨t, hx⟩ := hi.get i.toNat ns[i.toNat] (by simp [hlt])
  exact tail_any hl'.typeIs slot_list_getitem.lookup (wpAny_getItem_list hl' h0 (by omega) (by simpa using hx) (h _ t)) hs
local macro_rules | `(tactic| walk_at "subscriptTail Name BinOp ref int") => `(tactic| (k_here; refine' my_item ?k1 ?k2 ?k3 ?k4 ?k5 ?_ ?k6; (case k1 => k_asm); (case k2 => k_asm); (case k3 => k_asm); (case k4 => k_asm); (case k5 => k_asm); (case k6 => with_unfolding_all rfl); intro k' t'; (try dsimp only)))
local macro_rules | `(tactic| walk_at "binaryOp Pow int int") => `(tactic| (k_here; refine pow_int_small (fdiv_nn (by assumption)) (fdiv_le_of (by assumption) (by assumption)) (by decide) ?_))
local macro_rules | `(tactic| walk_at "binaryOp FloorDiv int int") => `(tactic| (k_here; refine' my_floordiv ?k1 ?k2 ?k3 ?k4 ?k5 ?k6 ?k7 ?k8 ?k9 ?k10 ?k11 ?_; (case k1 => k_asm); (case k2 => k_asm); (case k3 => decide +kernel); (case k4 => first | exact len_ne (by assumption) | exact pow7_ne _); (case k7 => exact rfl); (case k5 => (simp only [depth_deeper, depth_in1]; show _ + 100 < _; omega)); (case k6 => exact rfl); (case k8 => exact rfl); (case k9 => exact rfl); (case k10 => exact rfl); (case k11 => exact rfl)))
local macro_rules | `(tactic| walk_at "binaryOp Mod int int") => `(tactic| (k_here; refine mod_int' (by first | exact len_ne (by assumption) | exact most_ne (by assumption)) ?_))
theorem fill0 : ∀ (P : Params) (h : Heap), (Mine.hd.heap_39 P).In h → PySem.Challenge.rw_on0082_01.Holds → True := by
  k_fill
  intros; trivial
theorem take_spec (w : World) (s : Shared) (mean : ExcName → Option Value) (mg mb : Str → Option Value) (b₀ : Heap) (B : Base w mean mg mb b₀) (hb : ∀ b o, b₀.get? b = some o → s.heap.get? b = some o)
    (dp un : Nat) (fr : List Env) (gd : Option (List Code)) (hdp : dp + 120 < recursionLimit) (hun : un + 200 < cLine)
    (st row : Addr) (vs : List Value) (ns : List Int) (at' : Int) (t1 t2 : Tok) (n1 : Nat) (most : Int)
    (hst0 : b₀.get? st = none) (hst : s.heap.get? st = some (PySem.W.listOf #[.ref row, .int at' t1] n1)) (hrow : s.heap.IsList row vs.toArray) (hi : IntsAre vs ns) (hne : row ≠ st)
    (h0 : 0 ≤ at') (h1 : at' < 400) (hl : ns.length ≤ 40) (hm : 1 ≤ most) (hm2 : most ≤ 100)
    (Q E : Value → Shared → Prop)
    (hQ : ∀ (r : Int) (t t' : Tok) (n' : Nat) (h' : Heap) (tk : Nat), 0 ≤ r → r < most → Stay [st] s.heap h' → h'.get? st = some (PySem.W.listOf #[.ref row, .int (at' + 1) t'] n') → Q (.int r t) { s with heap := h', toks := tk }) :
    wpAny (model PySem.Challenge.rw_on0082_01.row.prog w) (Ard dp un fr gd) (call (.ref 49) [.ref st, .int most t2]) Q E s := by
  refine' enter [(st, PySem.W.listOf #[.ref row, .int at' t1] n1)] b₀ B hb ?hc ?hn ?ho ?hcd ?hroom ?hbind ?hloc ?h ?c1 ?c2 ?c3 ?c4
  case hc => intro p hp; rcases List.mem_singleton.mp hp with rfl; exact hst
  case hn => intro p hp; rcases List.mem_singleton.mp hp with rfl; exact hst0
  case ho => k_is
  case hcd => k_is
  case hroom => show dp < recursionLimit; omega
  case hbind => exact BindsTo.of_eq rfl
  case hloc => exact locs rfl
  case c1 => exact rfl
  case c2 => exact rfl
  case c3 => exact rfl
  case c4 => decide
  case h =>
  intro g L' h₁ hsub hst' F' N' X' T'
  try dsimp only
  have hrow' : g.IsList row vs.toArray := by
    obtain ⟨o, ho, r⟩ := hrow
    exact ⟨o, hst' row o (by simpa using hne) ho, r⟩
  try k_fold
  k_steps
  · dsimp only
    rename News _ _ _ _ => N
    rename Fr _ _ _ _ => F
    refine hQ _ _ _ _ _ _ (Int.le_refl _) (by omega) (stay_of hst' F) (N _ (.tail _ (.head _))).1
  · show False
    rename ((ns.length : Int) = 0) => hz
    exact len_ne (by assumption) hz
  · rename News _ _ _ _ => N
    rename Fr _ _ _ _ => F
    have hp : (0 : Int) < most := by omega
    refine hQ _ _ _ _ _ _ (Int.fmod_nonneg_of_pos _ hp) (Int.fmod_lt_of_pos _ hp) (stay_of hst' F) (N _ (.tail _ (.head _))).1
end Mine
end

section
open PySem PySem.W PyProof.Rows PySem.Calls
set_option Elab.async false
set_option maxRecDepth 100000
namespace Mine
theorem offMTree : True := by
  w_top off
  trivial
/-- the expressions that the law builds -/
inductive T where
  | sig (k : Int) | const (v : Int) | loc (v : Int)
  | word (k : Int) (i : T) | un (x : T) | slice (x : T) | ext (x : T)
  | pick (a b : T) | bin (a b : T) | pow (a b : T) | cat (a b : T) | call (a b : T) | sys (a b : T)
  | cond (a b c : T)
def T.kids : T → List T
  | .sig _ | .const _ | .loc _ => []
  | .word _ i => [i]
  | .un x | .slice x | .ext x => [x]
  | .pick a b | .bin a b | .pow a b | .cat a b | .call a b | .sys a b => [a, b]
  | .cond a b c => [a, b, c]
def T.key : T → List Int
  | .sig k => [k]
  | .word k _ => [k]
  | _ => []
/-- the keys as the builder meets them -/
def T.keys : T → List Int
  | .sig k => [k]
  | .const _ | .loc _ => []
  | .word k i => k :: i.keys
  | .un x | .slice x | .ext x => x.keys
  | .pick a b => b.keys ++ a.keys
  | .bin a b | .pow a b | .cat a b | .call a b | .sys a b => a.keys ++ b.keys
  | .cond a b c => a.keys ++ b.keys ++ c.keys
def T.size : T → Nat
  | .sig _ | .const _ | .loc _ => 1
  | .word _ i => i.size + 1
  | .un x | .slice x | .ext x => x.size + 1
  | .pick a b | .bin a b | .pow a b | .cat a b | .call a b | .sys a b => a.size + b.size + 1
  | .cond a b c => a.size + b.size + c.size + 1
abbrev vs (x : String) (t : Tok) : Value := .str (Str.ofString x) t
/-- the tuples of a tree stand at their addresses -/
inductive TreeG (P : Addr → Array Value → Prop) : Value → T → Prop where
  | sig {a : Addr} {k : Int} {t0 t1 t2 : Tok} : P a #[vs "sig" t0, .int 4 t1, .int k t2] → TreeG P (.ref a) (.sig k)
  | const {a : Addr} {k : Int} {t0 t1 t2 t3 : Tok} : P a #[vs "const" t0, .int 4 t1, .int k t2, .int 0 t3] → TreeG P (.ref a) (.const k)
  | loc {a : Addr} {k : Int} {t0 t1 t2 : Tok} : P a #[vs "local" t0, .int 4 t1, .int k t2] → TreeG P (.ref a) (.loc k)
  | word {a : Addr} {k : Int} {x : Value} {i : T} {t0 t1 t2 : Tok} : P a #[vs "word" t0, .int 4 t1, .int k t2, x, .bool false] → TreeG P x i → TreeG P (.ref a) (.word k i)
  | un {a : Addr} {x : Value} {i : T} {t0 t1 t2 : Tok} : P a #[vs "un" t0, .int 4 t1, vs "~" t2, x] → TreeG P x i → TreeG P (.ref a) (.un i)
  | slice {a : Addr} {x : Value} {i : T} {t0 t1 t2 : Tok} : P a #[vs "slice" t0, .int 1 t1, x, .int 2 t2] → TreeG P x i → TreeG P (.ref a) (.slice i)
  | ext {a : Addr} {x : Value} {i : T} {t0 t1 : Tok} : P a #[vs "ext" t0, .int 8 t1, x, .bool true] → TreeG P x i → TreeG P (.ref a) (.ext i)
  | pick {a : Addr} {x y : Value} {i j : T} {t0 t1 t2 t3 : Tok} : P a #[vs "pick" t0, .int 1 t1, x, y, .bool false, .int 0 t2, .int 1 t3] → TreeG P x i → TreeG P y j → TreeG P (.ref a) (.pick i j)
  | bin {a : Addr} {x y : Value} {i j : T} {t0 t1 t2 : Tok} : P a #[vs "bin" t0, .int 4 t1, vs "+" t2, x, y, .bool false] → TreeG P x i → TreeG P y j → TreeG P (.ref a) (.bin i j)
  | pow {a : Addr} {x y : Value} {i j : T} {t0 t1 : Tok} : P a #[vs "pow" t0, .int 4 t1, x, y, .bool false, .bool false] → TreeG P x i → TreeG P y j → TreeG P (.ref a) (.pow i j)
  | cat {a b : Addr} {x y : Value} {i j : T} {t0 t1 : Tok} : P a #[vs "cat" t0, .int 8 t1, .ref b] → P b #[x, y] → TreeG P x i → TreeG P y j → TreeG P (.ref a) (.cat i j)
  | call {a b : Addr} {x y : Value} {i j : T} {t0 t1 t2 : Tok} : P a #[vs "call" t0, .int 4 t1, .int 1 t2, .ref b] → P b #[x, y] → TreeG P x i → TreeG P y j → TreeG P (.ref a) (.call i j)
  | sys {a b : Addr} {x y : Value} {i j : T} {t0 t1 t2 : Tok} : P a #[vs "sys" t0, .int 32 t1, vs "$clog2" t2, .ref b] → P b #[x, y] → TreeG P x i → TreeG P y j → TreeG P (.ref a) (.sys i j)
  | cond {a : Addr} {x y z : Value} {i j k : T} {t0 t1 : Tok} : P a #[vs "cond" t0, .int 4 t1, x, y, z] → TreeG P x i → TreeG P y j → TreeG P z k → TreeG P (.ref a) (.cond i j k)
theorem TreeG.mono {P P' : Addr → Array Value → Prop} (k : ∀ a xs, P a xs → P' a xs) {v : Value} {t : T} (h : TreeG P v t) : TreeG P' v t := by
  induction h with
  | sig p => exact .sig (k _ _ p)
  | const p => exact .const (k _ _ p)
  | loc p => exact .loc (k _ _ p)
  | word p _ i => exact .word (k _ _ p) i
  | un p _ i => exact .un (k _ _ p) i
  | slice p _ i => exact .slice (k _ _ p) i
  | ext p _ i => exact .ext (k _ _ p) i
  | pick p _ _ i j => exact .pick (k _ _ p) i j
  | bin p _ _ i j => exact .bin (k _ _ p) i j
  | pow p _ _ i j => exact .pow (k _ _ p) i j
  | cat p q _ _ i j => exact .cat (k _ _ p) (k _ _ q) i j
  | call p q _ _ i j => exact .call (k _ _ p) (k _ _ q) i j
  | sys p q _ _ i j => exact .sys (k _ _ p) (k _ _ q) i j
  | cond p _ _ _ i j l => exact .cond (k _ _ p) i j l
/-- a tuple of the ground or of the ledger -/
def Has (g : Heap) (tl : List (Addr × Obj)) (a : Addr) (items : Array Value) : Prop :=
  IsTup g a items ∨ ∃ o, (a, o) ∈ tl ∧ o.cls = .type "tuple" ∧ ∃ n, o.data = .seq items n
theorem Has.mono {g : Heap} {tl tl' : List (Addr × Obj)} {a : Addr} {xs : Array Value} (h : Has g tl a xs) (k : ∀ p ∈ tl, p ∈ tl') : Has g tl' a xs :=
  h.imp id fun ⟨o, hm, r⟩ => ⟨o, k _ hm, r⟩
theorem Has.tup {g h : Heap} {L : Addr} {m : Str → Option Value} {tl news : List (Addr × Obj)} {a : Addr} {xs : Array Value} (x : Has g tl a xs) (F : Fr g L h m) (N : News g L h news) (k : ∀ p ∈ tl, p ∈ news) : IsTup h a xs := by
  rcases x with ⟨o, ho, r⟩ | ⟨o, hm, r⟩
  · exact ⟨o, F.keep _ _ ho, r⟩
  · exact ⟨o, (N _ (k _ hm)).1, r⟩
/-- all that stands in h beside the ground, the frame and the addresses ex -/
def rest (g : Heap) (L : Addr) (ex : List Addr) (h : Heap) : List (Addr × Obj) :=
  (List.range h.objs.size).filterMap fun a => match h.get? a with
    | some o => if a = L ∨ a ∈ ex ∨ (g.get? a).isSome = true then none else some (a, o)
    | none => none
theorem mem_rest {g h : Heap} {L : Addr} {ex : List Addr} {p : Addr × Obj} : p ∈ rest g L ex h ↔ h.get? p.1 = some p.2 ∧ p.1 ≠ L ∧ p.1 ∉ ex ∧ g.get? p.1 = none := by
  unfold rest
  rw [List.mem_filterMap]
  constructor
  · rintro ⟨a, _, e⟩
    cases ho : h.get? a with
    | none => rw [ho] at e; cases e
    | some o =>
      rw [ho] at e
      dsimp only at e
      split at e
      · cases e
      · rename_i hn
        cases e
        simp only [not_or, Option.not_isSome_iff_eq_none] at hn
        exact ⟨ho, hn.1, hn.2.1, by simpa using hn.2.2⟩
  · rintro ⟨h1, h2, h3, h4⟩
    refine ⟨p.1, List.mem_range.mpr (Heap.lt_size h1), ?_⟩
    rw [h1]
    dsimp only
    rw [if_neg (by rintro (q | q | q); exact h2 q; exact h3 q; rw [h4] at q; cases q)]
theorem ns_stay {h h' : Heap} {L : Addr} {m : Str → Option Value} {l : List Addr} (x : h.Ns L m) (st : Stay l h h') (hL : L ∉ l) : h'.Ns L m := by
  obtain ⟨o, a1, a2, ho, r⟩ := x
  exact ⟨o, a1, a2, st L o hL ho, r⟩
theorem fr_stay {g h h' : Heap} {L : Addr} {m : Str → Option Value} {l : List Addr} (F : Fr g L h m) (st : Stay l h h') (hl : ∀ a ∈ l, a ≠ L ∧ g.get? a = none) : Fr g L h' m :=
  ⟨ns_stay F.ns st fun q => (hl L q).1 rfl, fun b o e => st b o (fun q => by rw [(hl b q).2] at e; cases e) (F.keep b o e), F.above⟩
theorem isTup_tupOf {h : Heap} {a : Addr} {xs : Array Value} {o : Obj} (x : IsTup h a xs) (e : h.get? a = some o) : o.cls = .type "tuple" ∧ ∃ n, o.data = .seq xs n := by
  obtain ⟨o', e', r⟩ := x
  rw [e'] at e; cases e; exact r
theorem has_of_tup {g h : Heap} {L : Addr} {m : Str → Option Value} {ex : List Addr} {a : Addr} {xs : Array Value} (F : Fr g L h m) (hex : ∀ b ∈ ex, ∀ o, h.get? b = some o → o.cls ≠ .type "tuple")
    (x : IsTup h a xs) : Has g (rest g L ex h) a xs := by
  obtain ⟨o, ho, hc, n, hd⟩ := x
  cases hg : g.get? a with
  | some o' =>
    have := F.keep _ _ hg
    rw [ho] at this; cases this
    exact .inl ⟨o, hg, hc, n, hd⟩
  | none =>
    refine .inr ⟨o, mem_rest.mpr ⟨ho, ?_, ?_, hg⟩, hc, n, hd⟩
    · rintro rfl
      obtain ⟨oL, es, ep, hL, hLd, _⟩ := F.ns
      rw [show h.get? (a, o).fst = some o from ho] at hL; cases hL
      rw [hd] at hLd; cases hLd
    · intro q; exact hex a q o ho hc
/-- what a call hands on of the ledger: all that stands now -/
theorem news_rest {g h : Heap} {L : Addr} {ex : List Addr} : News g L h (rest g L ex h) := fun _ hp => by
  have := mem_rest.mp hp
  exact ⟨this.1, this.2.1, this.2.2.2⟩
theorem rest_ne {g h : Heap} {L b : Addr} {ex : List Addr} (hb : b ∈ ex) : ∀ p ∈ rest g L ex h, p.1 ≠ b := fun p hp e => (mem_rest.mp hp).2.2.1 (e ▸ hb)
end Mine
end

section
open PySem PySem.W PyProof.Rows PySem.Calls
set_option Elab.async false
set_option maxRecDepth 100000
namespace Mine
theorem offMSpec : True := by
  w_top off
  trivial
def KeyOk (k : Int) : Prop := k = 0 ∨ k = 1 ∨ k = 2 ∨ k = 3 ∨ k = 4 ∨ k = 10 ∨ k = 11
def cst : Nat → Nat
  | 0 => 2
  | d + 1 => 2 + 3 * cst d
def sz : Nat → Nat
  | 0 => 1
  | d + 1 => 1 + 3 * sz d
theorem listNeTup : ¬ (Value.type "list" = Value.type "tuple") := fun q => absurd (Value.type.inj q) (by decide)
abbrev stObj (row : Addr) (at' : Int) (t : Tok) (n : Nat) : Obj := PySem.W.listOf #[.ref row, .int at' t] n
section
variable {w : World} {s : Shared} {mean : ExcName → Option Value} {mg mb : Str → Option Value} {Q E : Value → Shared → Prop} {dp un : Nat} {fr : List Env} {gd : Option (List Code)}
  {g : Heap} {L : Addr} {m : Str → Option Value} {news : List (Addr × Obj)} {gf : Obj → List (Addr × Obj)} {st row : Addr} {vs : List Value} {ns : List Int} {at' most : Int} {t1 t2 : Tok} {n1 : Nat}
theorem news_set {a : Addr} {o o' : Obj} {h h' : Heap} (N : News g L h news) (U : UpdF a o news gf) (st : Stay [a] h h') (ho : h'.get? a = some o') : News g L h' (gf o') := by
  obtain ⟨pre, post, rfl, hg, h1, h2⟩ := U.split
  rw [hg]
  have hm := N (a, o) (List.mem_append_right _ (.head _))
  intro p hp
  rcases List.mem_append.mp hp with hp | hp
  · exact ⟨st _ _ (by simpa using h1 p hp) (N p (List.mem_append_left _ hp)).1, (N p (List.mem_append_left _ hp)).2⟩
  · rcases List.mem_cons.mp hp with rfl | hp
    · exact ⟨ho, hm.2⟩
    · exact ⟨st _ _ (by simpa using h2 p hp) (N p (List.mem_append_right _ (.tail _ hp))).1, (N p (List.mem_append_right _ (.tail _ hp))).2⟩
theorem take_K (F : Fr g L s.heap m) (N : News g L s.heap news) (X : (Mine.hd.heap_39 w.params).In g) (T' : Top Mine.hd.view_39 (looseW Mine.hd.view_39 []) mean mg mb g)
    (U : UpdF st (stObj row at' t1 n1) news gf) (hrow : s.heap.IsList row vs.toArray) (hi : IntsAre vs ns) (hne : row ≠ st)
    (hdp : dp + 120 < recursionLimit) (hun : un + 200 < cLine) (h0 : 0 ≤ at') (h1 : at' < 400) (hl : ns.length ≤ 40) (hm : 1 ≤ most) (hm2 : most ≤ 100)
    (h : ∀ (r : Int) (t t' : Tok) (n' : Nat) (h' : Heap) (tk : Nat), 0 ≤ r → r < most → Fr g L h' m → News g L h' (gf (stObj row (at' + 1) t' n')) → Q (.int r t) { s with heap := h', toks := tk }) :
    wpAny (model PySem.Challenge.rw_on0082_01.row.prog w) (Ard dp un fr gd) (PySem.call (.ref 49) [.ref st, .int most t2]) Q E s := by
  have hmem : (st, stObj row at' t1 n1) ∈ news := by
    obtain ⟨pre, post, rfl, _⟩ := U.split
    exact List.mem_append_right _ (.head _)
  have hN := N _ hmem
  refine take_spec w s mean mg mb g ⟨X, T'⟩ F.keep dp un fr gd hdp hun st row vs ns at' t1 t2 n1 most hN.2.2 hN.1 hrow hi hne h0 h1 hl hm hm2 Q E fun r t t' n' h' tk a b st' hs => ?_
  exact h r t t' n' h' tk a b (fr_stay F st' fun a ha => by rw [List.mem_singleton.mp ha]; exact hN.2) (news_set N U st' hs)
theorem keys_size : ∀ t : T, t.keys.length ≤ t.size
  | .sig _ => Nat.le_refl _
  | .const _ | .loc _ => Nat.zero_le _
  | .word _ i => by have := keys_size i; simp only [T.keys, T.size, List.length_cons]; omega
  | .un x | .slice x | .ext x => by have := keys_size x; simp only [T.keys, T.size]; omega
  | .pick a b | .bin a b | .pow a b | .cat a b | .call a b | .sys a b => by have := keys_size a; have := keys_size b; simp only [T.keys, T.size, List.length_append]; omega
  | .cond a b c => by have := keys_size a; have := keys_size b; have := keys_size c; simp only [T.keys, T.size, List.length_append]; omega
structure Got (st met row : Addr) (at' : Int) (ms : List Int) (d : Nat) (h h' : Heap) (v : Value) (t : T) (at2 : Int) (t' : Tok) (n1' : Nat) (us' : List Value) (n2' : Nat) : Prop where
  tree : TreeG (IsTup h') v t
  size : t.size ≤ sz d
  keys : ∀ k ∈ t.keys, KeyOk k
  stay : Stay [st, met] h h'
  le1 : at' ≤ at2
  le2 : at2 ≤ at' + cst d
  st : h'.get? st = some (stObj row at2 t' n1')
  met : h'.get? met = some (PySem.W.listOf us'.toArray n2')
  vals : IntsAre us' (ms ++ t.keys)
def ExprOk (w : World) (mean : ExcName → Option Value) (mg mb : Str → Option Value) (d : Nat) : Prop :=
  ∀ (s : Shared) (b₀ : Heap) (dp un : Nat) (fr : List Env) (gd : Option (List Code)) (st met row : Addr) (vs : List Value) (ns : List Int) (at' : Int) (t0 t1 : Tok) (n1 n2 : Nat) (us : List Value) (ms : List Int) (e : Int) (Q E : Value → Shared → Prop),
    Base w mean mg mb b₀ → (∀ b o, b₀.get? b = some o → s.heap.get? b = some o) → dp + 140 + d < recursionLimit → un + 300 + 20 * d < cLine → b₀.get? st = none → b₀.get? met = none →
    s.heap.get? st = some (stObj row at' t1 n1) → s.heap.get? met = some (PySem.W.listOf us.toArray n2) → s.heap.IsList row vs.toArray → IntsAre vs ns → IntsAre us ms → row ≠ st → row ≠ met → met ≠ st →
    0 ≤ at' → at' + cst d ≤ 390 → ns.length ≤ 40 → ms.length + sz d ≤ 1000 → e = d →
    (∀ v t at2 t' n1' us' n2' h' tk, Got st met row at' ms d s.heap h' v t at2 t' n1' us' n2' → Q v { s with heap := h', toks := tk }) →
    wpAny (model PySem.Challenge.rw_on0082_01.row.prog w) (Ard dp un fr gd) (PySem.call (.ref 56) [.ref st, .int e t0, .ref met]) Q E s
theorem expr_K {d : Nat} {met : Addr} {t0 : Tok} {n2 : Nat} {us : List Value} {ms : List Int} {e : Int} (H : ExprOk w mean mg mb d)
    (F : Fr g L s.heap m) (N : News g L s.heap news) (X : (Mine.hd.heap_39 w.params).In g) (T' : Top Mine.hd.view_39 (looseW Mine.hd.view_39 []) mean mg mb g)
    (hst : (st, stObj row at' t1 n1) ∈ news) (hmet : (met, PySem.W.listOf us.toArray n2) ∈ news) (hrow : s.heap.IsList row vs.toArray) (hi : IntsAre vs ns) (hj : IntsAre us ms) (hne : row ≠ st) (hne2 : row ≠ met) (hne3 : met ≠ st)
    (hdp : dp + 140 + d < recursionLimit) (hun : un + 300 + 20 * d < cLine) (h0 : 0 ≤ at') (h1 : at' + cst d ≤ 390) (hl : ns.length ≤ 40) (hl2 : ms.length + sz d ≤ 1000) (he : e = d)
    (h : ∀ v t at2 t' n1' us' n2' h' tk tl', Fr g L h' m → News g L h' ((st, stObj row at2 t' n1') :: (met, PySem.W.listOf us'.toArray n2') :: tl') → (∀ p ∈ tl', p.1 ≠ st) → (∀ p ∈ tl', p.1 ≠ met) →
      (∀ a xs, Has g news a xs → Has g tl' a xs) → TreeG (Has g tl') v t → t.size ≤ sz d → t.keys.length ≤ sz d → (∀ k ∈ t.keys, KeyOk k) → at' ≤ at2 → at2 ≤ at' + cst d → IntsAre us' (ms ++ t.keys) → Q v { s with heap := h', toks := tk }) :
    wpAny (model PySem.Challenge.rw_on0082_01.row.prog w) (Ard dp un fr gd) (PySem.call (.ref 56) [.ref st, .int e t0, .ref met]) Q E s := by
  have hN := N _ hst
  have hM := N _ hmet
  refine H s g dp un fr gd st met row vs ns at' t0 t1 n1 n2 us ms e Q E ⟨X, T'⟩ F.keep hdp hun hN.2.2 hM.2.2 hN.1 hM.1 hrow hi hj hne hne2 hne3 h0 h1 hl hl2 he fun v t at2 t' n1' us' n2' h' tk G => ?_
  have F' : Fr g L h' m := fr_stay F G.stay fun a ha => by
    rcases List.mem_cons.mp ha with rfl | ha
    · exact hN.2
    · rw [List.mem_singleton.mp ha]; exact hM.2
  have hex : ∀ b ∈ [st, met], ∀ o, h'.get? b = some o → o.cls ≠ .type "tuple" := fun b hb o ho => by
    rcases List.mem_cons.mp hb with rfl | hb
    · rw [G.st] at ho; cases ho; exact listNeTup
    · rw [List.mem_singleton.mp hb, G.met] at ho; cases ho; exact listNeTup
  refine h v t at2 t' n1' us' n2' h' tk (rest g L [st, met] h') F' ?_ (rest_ne (.head _)) (rest_ne (.tail _ (.head _))) (fun a xs x => ?_) (G.tree.mono fun a xs x => has_of_tup F' hex x) G.size (Nat.le_trans (keys_size t) G.size) G.keys G.le1 G.le2 G.vals
  · intro p hp
    rcases List.mem_cons.mp hp with rfl | hp
    · exact ⟨G.st, hN.2⟩
    · rcases List.mem_cons.mp hp with rfl | hp
      · exact ⟨G.met, hM.2⟩
      · exact news_rest p hp
  · refine has_of_tup F' hex ?_
    obtain ⟨o, ho, hc, r⟩ := x.tup F N fun _ q => q
    refine ⟨o, G.stay a o (fun q => ?_) ho, hc, r⟩
    rcases List.mem_cons.mp q with rfl | q
    · rw [hN.1] at ho; cases ho; exact absurd hc listNeTup
    · rw [List.mem_singleton.mp q, hM.1] at ho; cases ho; exact absurd hc listNeTup
end
section
variable {prog : Program} {w : World} {A : Around} {s : Shared} {Q E : Value → Shared → Prop} {g h : Heap} {L : Addr} {m : Str → Option Value} {news : List (Addr × Obj)} {gf : Obj → List (Addr × Obj)}
theorem ints_snoc {k : Int} {t : Tok} : ∀ {us : List Value} {ms : List Int}, IntsAre us ms → IntsAre (us ++ [.int k t]) (ms ++ [k])
  | _, _, .nil => .cons k t .nil
  | _, _, .cons n u r => .cons n u (ints_snoc r)
theorem append_M {met : Addr} {us : List Value} {ms : List Int} {n : Nat} {k : Int} {t : Tok} (F : Fr g L s.heap m) (N : News g L s.heap news) (U : UpdF met (PySem.W.listOf us.toArray n) news gf) (hj : IntsAre us ms) (hl : ms.length ≤ 2000)
    (h : ∀ h' us' n', Fr g L h' m → News g L h' (gf (PySem.W.listOf us'.toArray n')) → IntsAre us' (ms ++ [k]) → Q .none { s with heap := h' }) :
    wpAny (model prog w) A (PySem.call (.builtin "list.append") [.ref met, .int k t]) Q E s := by
  obtain ⟨pre, post, rfl, hg, a, b⟩ := U.split
  have z := N (met, PySem.W.listOf us.toArray n) (List.mem_append.mpr (.inr (.head _)))
  have hlen := hj.length
  refine append_at (hsz := by rw [sizeLine_eq]; simp only [List.size_toArray]; omega) z.1 fun h' hs ho' => ?_
  refine h h' (us ++ [.int k t]) (n + 1) (F.change hs z.2.1 z.2.2) ?_ (ints_snoc hj)
  rw [hg]
  refine news_set (a := met) (o := PySem.W.listOf us.toArray n) N U (fun c o hc e => (hs.2 c (by simpa using hc)).trans e) ?_ |> fun x => by rw [hg] at x; exact x
  rw [ho']; simp
theorem mod3_K {a : Int} {t u : Tok} (h : ∀ q, 0 ≤ q → q < 3 → Q (.int q s.toks) { s with toks := s.toks + 1 }) : wpAny (model prog w) A (binaryOp .Mod (.int a t) (.int 3 u)) Q E s :=
  mod_int' (by decide) (h _ (Int.fmod_nonneg_of_pos _ (by decide)) (Int.fmod_lt_of_pos _ (by decide)))
theorem tupN {D : Addr} {xs : Array Value} {n : Nat} (N : News g L h news) (hm : (D, ({ cls := .type "tuple", data := .seq xs n } : Obj)) ∈ news) : IsTup h D xs := ⟨_, (N _ hm).1, rfl, _, rfl⟩
theorem kid {v : Value} {t : T} {tl : List (Addr × Obj)} (x : TreeG (Has g tl) v t) (F : Fr g L h m) (N : News g L h news) (k : ∀ p ∈ tl, p ∈ news) : TreeG (IsTup h) v t := x.mono fun _ _ y => y.tup F N k
theorem kid_a {v : Value} {t : T} {st met : Addr} {o1 o2 : Obj} {tl tl' : List (Addr × Obj)} (x : TreeG (Has g tl) v t) (y : ∀ a xs, Has g ((st, o1) :: (met, o2) :: tl) a xs → Has g tl' a xs) : TreeG (Has g tl') v t := x.mono fun a xs z => y a xs (z.mono fun _ q => .tail _ (.tail _ q))
theorem keys2 {a b : List Int} (x : ∀ k ∈ a, KeyOk k) (y : ∀ k ∈ b, KeyOk k) : ∀ k ∈ a ++ b, KeyOk k := fun k h => (List.mem_append.mp h).elim (x k) (y k)
theorem kid_on {v : Value} {t : T} {tl tl' news : List (Addr × Obj)} (x : TreeG (Has g tl) v t) (k : ∀ p ∈ tl, p ∈ news) (y : ∀ a xs, Has g news a xs → Has g tl' a xs) : TreeG (Has g tl') v t := x.mono fun a xs z => y a xs (z.mono k)
theorem got_end {st met row : Addr} {at' at2 : Int} {ms : List Int} {d : Nat} {h₀ : Heap} {v : Value} {t : T} {t' : Tok} {n1' : Nat} {us' : List Value} {n2' : Nat} {c : List (Addr × Obj)} (F : Fr g L h m) (N : News g L h news) (hs : Stay (c.map (·.1)) h₀ g) (hc : c.map (·.1) = [st, met])
    (h1 : (st, stObj row at2 t' n1') ∈ news) (h2 : (met, PySem.W.listOf us'.toArray n2') ∈ news) (tr : TreeG (IsTup h) v t) (hz : t.size ≤ sz d) (hk : ∀ k ∈ t.keys, KeyOk k) (l1 : at' ≤ at2) (l2 : at2 ≤ at' + cst d) (hv : IntsAre us' (ms ++ t.keys)) :
    Got st met row at' ms d h₀ h v t at2 t' n1' us' n2' :=
  ⟨tr, hz, hk, by rw [← hc]; exact stay_of hs F, l1, l2, (N _ h1).1, (N _ h2).1, hv⟩
end
theorem item2 {prog : Program} {w : World} {A : Around} {s : Shared} {Q E : Value → Shared → Prop} {g : Heap} {L D : Addr} {news : List (Addr × Obj)} {value slice : PySem.Expr} {v0 v1 : Value} {n : Nat} {r : Int} {u : Tok}
    (N : News g L s.heap news) (hm : (D, PySem.W.listOf #[v0, v1] n) ∈ news) (h0 : 0 ≤ r) (h1 : r < 2) (q0 : Q v0 s) (q1 : Q v1 s)
    (hs : subscripted slice false (.ref D) (.int r u) = operate [.ref D, .int r u] (getItem (.ref D) (.int r u)) := by with_unfolding_all rfl) :
    wpAny (model prog w) A (subscriptTail value slice (.ref D) (.int r u)) Q E s := by
  have hl : s.heap.IsList D #[v0, v1] := ⟨_, (N _ hm).1, rfl, _, rfl⟩
  have hc : r = 0 ∨ r = 1 := by omega
  rcases hc with rfl | rfl
  · exact tail_any hl.typeIs slot_list_getitem.lookup (wpAny_getItem_list hl (by decide) (by decide) rfl q0) hs
  · exact tail_any hl.typeIs slot_list_getitem.lookup (wpAny_getItem_list hl (by decide) (by decide) rfl q1) hs
theorem item3 {prog : Program} {w : World} {A : Around} {s : Shared} {Q E : Value → Shared → Prop} {g : Heap} {L D : Addr} {news : List (Addr × Obj)} {value slice : PySem.Expr} {v0 v1 v2 : Value} {n : Nat} {r : Int} {u : Tok}
    (N : News g L s.heap news) (hm : (D, PySem.W.listOf #[v0, v1, v2] n) ∈ news) (h0 : 0 ≤ r) (h1 : r < 3) (q0 : Q v0 s) (q1 : Q v1 s) (q2 : Q v2 s)
    (hs : subscripted slice false (.ref D) (.int r u) = operate [.ref D, .int r u] (getItem (.ref D) (.int r u)) := by with_unfolding_all rfl) :
    wpAny (model prog w) A (subscriptTail value slice (.ref D) (.int r u)) Q E s := by
  have hl : s.heap.IsList D #[v0, v1, v2] := ⟨_, (N _ hm).1, rfl, _, rfl⟩
  have hc : r = 0 ∨ r = 1 ∨ r = 2 := by omega
  rcases hc with rfl | rfl | rfl
  · exact tail_any hl.typeIs slot_list_getitem.lookup (wpAny_getItem_list hl (by decide) (by decide) rfl q0) hs
  · exact tail_any hl.typeIs slot_list_getitem.lookup (wpAny_getItem_list hl (by decide) (by decide) rfl q1) hs
  · exact tail_any hl.typeIs slot_list_getitem.lookup (wpAny_getItem_list hl (by decide) (by decide) rfl q2) hs
theorem ite_eqN {a b : Int} {p q : Prop} (h : a ≠ b) (hq : q) : if (a == b) = true then p else q := by rw [if_neg (by simpa using h)]; exact hq
theorem ite_eqP {a b : Int} {p q : Prop} (h : a = b) (hp : p) : if (a == b) = true then p else q := by rw [if_pos (by simpa using h)]; exact hp
theorem ite_eqS {a b : Int} {p q : Prop} (h1 : a = b → p) (h2 : a ≠ b → q) : if (a == b) = true then p else q := by
  by_cases h : a = b
  · exact ite_eqP h (h1 h)
  · exact ite_eqN h (h2 h)
end Mine
end

section
open PySem PySem.W PyProof.Rows PySem.Calls
set_option Elab.async false
set_option maxRecDepth 100000
set_option maxHeartbeats 16000000
namespace Mine
theorem offMExpr0 : True := by
  w_top off
  trivial
set_option pp.deepTerms false
set_option pp.deepTerms.threshold 8
theorem fill1 : ∀ (P : Params) (h : Heap), (Mine.hd.heap_39 P).In h → PySem.Challenge.rw_on0082_01.Holds → True := by
  k_fill
  intros; trivial
local macro_rules | `(tactic| walk_at "mine pad") => `(tactic| fail)
local macro_rules | `(tactic| walk_at "mine pad") => `(tactic| fail)
local macro_rules | `(tactic| k_all) => `(tactic| assumption)
local macro_rules | `(tactic| walk_at "call ref") => `(tactic| (k_here; k_dflt (refine' take_K ?F ?N ?X ?T ?U ?r ?i ?n ?d ?u ?h0 ?h1 ?l ?m1 ?m2 ?_; (case F => k_asm); (case N => k_asm); (case X => k_asm); (case T => k_asm); (case U => k_updF); (case r => is_list); (case i => k_asm); (case n => k_asm); (case d => (dsimp only [Ard]; omega)); (case u => (dsimp only [Ard]; omega)); (case h0 => omega); (case h1 => omega); (case l => omega); (case m1 => omega); (case m2 => omega)); intro r' t' t1' n' h' tk' a' b' F' N'; (try dsimp only at N'); (try k_sweep)))
local macro_rules | `(tactic| walk_at "call builtin:list.append") => `(tactic| (k_here; k_dflt (refine' append_M ?F ?N ?U ?j ?l ?_; (case F => k_asm); (case N => k_asm); (case U => k_updF); (case j => k_asm); (case l => first | omega | (simp only [List.length_append, List.length_cons, List.length_nil]; omega))); intro h' u' n' F' N' j'; (try dsimp only at N'); (try k_sweep)))
local macro_rules | `(tactic| walk_at "binaryOp Mod int int") => `(tactic| (k_here; (with_reducible show wpAny _ _ (binaryOp _ (Value.int _ _) (Value.int 3 _)) _ _ _); refine mod3_K ?_; intro q' a' b'))
local macro_rules | `(tactic| walk_at "ite") => `(tactic| (k_here; first | with_reducible refine ite_eqN (by omega) ?_ | with_reducible refine ite_eqP (by omega) ?_ | (with_reducible refine ite_eqS ?_ ?_ <;> intro hc')))
theorem expr_zero (w : World) (mean : ExcName → Option Value) (mg mb : Str → Option Value) : ExprOk w mean mg mb 0 := by
  intro s b₀ dp un fr gd st met row vs ns at' t0 t1 n1 n2 us ms e Q E B hb hdp hun hst0 hmet0 hst hmet hrow hi hj hne hne2 hne3 h0 h1 hl hl2 he hQ
  have hc0 : (cst 0 : Int) = 2 := rfl
  have hs0 : sz 0 = 1 := rfl
  subst he
  have hneN : @Ne Nat met st := hne3
  refine' enter [(st, stObj row at' t1 n1), (met, PySem.W.listOf us.toArray n2)] b₀ B hb ?hc ?hn ?ho ?hcd ?hroom ?hbind ?hloc ?h ?c1 ?c2 ?c3 ?c4
  case hc => intro p hp; rcases List.mem_cons.mp hp with rfl | hp; exact hst; rcases List.mem_singleton.mp hp with rfl; exact hmet
  case hn => intro p hp; rcases List.mem_cons.mp hp with rfl | hp; exact hst0; rcases List.mem_singleton.mp hp with rfl; exact hmet0
  case ho => k_is
  case hcd => k_is
  case hroom => show dp < recursionLimit; omega
  case hbind => exact BindsTo.of_eq rfl
  case hloc => exact locs rfl
  case c1 => exact rfl
  case c2 => exact rfl
  case c3 => exact rfl
  case c4 => decide
  case h =>
  intro g L' h₁ hsub hst' F' N' X' T'
  have hrow' : g.IsList row vs.toArray := by
    obtain ⟨o, ho, r⟩ := hrow
    exact ⟨o, hst' row o (by simp only [List.map_cons, List.map_nil, List.mem_cons, List.not_mem_nil, or_false, not_or]; exact ⟨hne, hne2⟩) ho, r⟩
  clear hrow hb B hsub hst0 hmet0 hst hmet
  try dsimp only
  try k_fold
  k_steps
  · rename News _ _ _ _ => N
    rename Fr _ _ _ _ => F
    rename IntsAre _ (_ ++ _) => J
    rename (_ : Int) < 5 => b5
    rename 0 ≤ (_ : Int) => a5
    refine hQ _ (.sig _) _ _ _ _ _ _ _ (got_end F N hst' rfl (.tail _ (.head _)) (.tail _ (.tail _ (.head _))) (.sig (tupN N (.head _))) (Nat.le_refl _) ?_ ?_ ?_ J)
    · intro k hk
      rw [List.mem_singleton.mp hk]
      unfold KeyOk; omega
    · omega
    · omega
  · rename News _ _ _ _ => N
    rename Fr _ _ _ _ => F
    exact hQ _ (.const _) _ _ _ _ _ _ _ (got_end F N hst' rfl (.tail _ (.head _)) (.tail _ (.tail _ (.head _))) (.const (tupN N (.head _))) (Nat.le_refl _) (fun _ hk => nomatch hk) (by omega) (by omega) (by rw [show (T.const _).keys = [] from rfl, List.append_nil]; exact hj))
  · rename News _ _ _ _ => N
    rename Fr _ _ _ _ => F
    exact hQ _ (.loc _) _ _ _ _ _ _ _ (got_end F N hst' rfl (.tail _ (.head _)) (.tail _ (.tail _ (.head _))) (.loc (tupN N (.head _))) (Nat.le_refl _) (fun _ hk => nomatch hk) (by omega) (by omega) (by rw [show (T.loc _).keys = [] from rfl, List.append_nil]; exact hj))
end Mine
end

section
open PySem PySem.W PyProof.Rows PySem.Calls
set_option Elab.async false
set_option maxRecDepth 100000
set_option maxHeartbeats 16000000
namespace Mine
theorem offMExprS : True := by
  w_top off
  trivial
set_option pp.deepTerms false
set_option pp.deepTerms.threshold 8
theorem fill2 : ∀ (P : Params) (h : Heap), (Mine.hd.heap_39 P).In h → PySem.Challenge.rw_on0082_01.Holds → True := by
  k_fill
  intros; trivial
local macro_rules | `(tactic| k_all) => `(tactic| assumption)
local macro_rules | `(tactic| walk_at "call ref") => `(tactic| (k_here; k_dflt (first | (refine' take_K ?F ?N ?X ?T ?U ?r ?i ?n ?d ?u ?h0 ?h1 ?l ?m1 ?m2 ?_; (case F => k_asm); (case N => k_asm); (case X => k_asm); (case T => k_asm); (case U => k_updF); (case r => is_list); (case i => k_asm); (case n => k_asm); (case d => (dsimp only [Ard]; omega)); (case u => (dsimp only [Ard]; omega)); (case h0 => omega); (case h1 => omega); (case l => omega); (case m1 => omega); (case m2 => omega); intro r' t' t1' n' h' tk' a' b' F' N'; (try dsimp only at N'); (try k_sweep)) | (refine' expr_K ?H ?F ?N ?X ?T ?s ?m ?r ?i ?j ?n1 ?n2 ?n3 ?d ?u ?h0 ?h1 ?l ?l2 ?e ?_; (case H => assumption); (case F => k_asm); (case N => k_asm); (case X => k_asm); (case T => k_asm); (case s => k_mem); (case m => k_mem); (case r => is_list); (case i => k_asm); (case j => k_asm); (case n1 => k_asm); (case n2 => k_asm); (case n3 => k_asm); (case d => (dsimp only [Ard]; omega)); (case u => (dsimp only [Ard]; omega)); (case h0 => omega); (case h1 => omega); (case l => omega); (case l2 => first | omega | (simp only [List.length_append, List.length_cons, List.length_nil]; omega)); (case e => omega); intro v' x' a' t' n' u' q' h' tk' tl' F' N' p1' p2' k' tr' z' z2' y' c1' c2' j'; (try k_sweep)))))
local macro_rules | `(tactic| walk_at "call builtin:list.append") => `(tactic| (k_here; k_dflt (refine' append_M ?F ?N ?U ?j ?l ?_; (case F => k_asm); (case N => k_asm); (case U => k_updF); (case j => k_asm); (case l => first | omega | (simp only [List.length_append, List.length_cons, List.length_nil]; omega))); intro h' u' n' F' N' j'; (try dsimp only at N'); (try k_sweep)))
local macro_rules | `(tactic| walk_at "binaryOp Mod int int") => `(tactic| (k_here; (with_reducible show wpAny _ _ (binaryOp _ (Value.int _ _) (Value.int 3 _)) _ _ _); refine mod3_K ?_; intro q' a' b'))
local macro_rules | `(tactic| walk_at "ite") => `(tactic| (k_here; first | with_reducible refine ite_eqN (by omega) ?_ | with_reducible refine ite_eqP (by omega) ?_ | (with_reducible refine ite_eqS ?_ ?_ <;> intro hc')))
local macro_rules | `(tactic| walk_at "subscriptTail") => `(tactic| (k_here; (with_reducible show wpAny _ _ (subscriptTail (PySem.Expr.List _ _) _ (Value.ref _) (Value.int _ _)) _ _ _); k_dflt (first | (refine' item2 ?N ?m ?a ?b ?_ ?_ ?h; (case N => k_asm); (case m => k_mem); (case a => k_asm); (case b => k_asm); (case h => with_unfolding_all rfl)) | (refine' item3 ?N ?m ?a ?b ?_ ?_ ?_ ?h; (case N => k_asm); (case m => k_mem); (case a => k_asm); (case b => k_asm); (case h => with_unfolding_all rfl)))))
theorem expr_step (w : World) (mean : ExcName → Option Value) (mg mb : Str → Option Value) (k : Nat) (H : ExprOk w mean mg mb k) : ExprOk w mean mg mb (k + 1) := by
  intro s b₀ dp un fr gd st met row vs ns at' t0 t1 n1 n2 us ms e Q E B hb hdp hun hst0 hmet0 hst hmet hrow hi hj hne hne2 hne3 h0 h1 hl hl2 he hQ
  have hc0 : (cst (k + 1) : Int) = 2 + 3 * cst k := by simp [cst]
  have hs0 : sz (k + 1) = 1 + 3 * sz k := rfl
  have hneN : @Ne Nat met st := hne3
  refine' enter [(st, stObj row at' t1 n1), (met, PySem.W.listOf us.toArray n2)] b₀ B hb ?hc ?hn ?ho ?hcd ?hroom ?hbind ?hloc ?h ?c1 ?c2 ?c3 ?c4
  case hc => intro p hp; rcases List.mem_cons.mp hp with rfl | hp; exact hst; rcases List.mem_singleton.mp hp with rfl; exact hmet
  case hn => intro p hp; rcases List.mem_cons.mp hp with rfl | hp; exact hst0; rcases List.mem_singleton.mp hp with rfl; exact hmet0
  case ho => k_is
  case hcd => k_is
  case hroom => show dp < recursionLimit; omega
  case hbind => exact BindsTo.of_eq rfl
  case hloc => exact locs rfl
  case c1 => exact rfl
  case c2 => exact rfl
  case c3 => exact rfl
  case c4 => decide
  case h =>
  intro g L' h₁ hsub hst' F' N' X' T'
  have hrow' : g.IsList row vs.toArray := by
    obtain ⟨o, ho, r⟩ := hrow
    exact ⟨o, hst' row o (by simp only [List.map_cons, List.map_nil, List.mem_cons, List.not_mem_nil, or_false, not_or]; exact ⟨hne, hne2⟩) ho, r⟩
  clear hrow hb B hsub hst0 hmet0 hst hmet
  try dsimp only
  try k_fold
  k_steps
  · rename News _ _ _ _ => N
    rename Fr _ _ _ _ => F
    rename IntsAre _ (_ ++ _) => J
    rename (_ : Int) < 5 => b5
    rename 0 ≤ (_ : Int) => a5
    refine hQ _ (.sig _) _ _ _ _ _ _ _ (got_end F N hst' rfl (by k_mem) (by k_mem) (.sig (tupN N (.head _))) (by simp only [T.size]; omega) ?_ ?_ ?_ J)
    · intro k hk
      rw [List.mem_singleton.mp hk]
      unfold KeyOk; omega
    · omega
    · omega
  · rename News _ _ _ _ => N
    rename Fr _ _ _ _ => F
    exact hQ _ (.const _) _ _ _ _ _ _ _ (got_end F N hst' rfl (by k_mem) (by k_mem) (.const (tupN N (.head _))) (by simp only [T.size]; omega) (fun _ hk => nomatch hk) (by omega) (by omega) (by rw [show (T.const _).keys = [] from rfl, List.append_nil]; exact hj))
  · rename News _ _ _ _ => N
    rename Fr _ _ _ _ => F
    exact hQ _ (.loc _) _ _ _ _ _ _ _ (got_end F N hst' rfl (by k_mem) (by k_mem) (.loc (tupN N (.head _))) (by simp only [T.size]; omega) (fun _ hk => nomatch hk) (by omega) (by omega) (by rw [show (T.loc _).keys = [] from rfl, List.append_nil]; exact hj))
  · rename News _ _ _ _ => N
    rename Fr _ _ _ _ => F
    rename IntsAre _ (_ ++ _) => J
    refine hQ _ (.word _ _) _ _ _ _ _ _ _ (got_end F N hst' rfl (by k_mem) (by k_mem) (.word (tupN N (.head _)) (kid (by assumption) F N (fun _ hp => by simp only [List.mem_cons, hp, or_true]))) ?_ ?_ ?_ ?_ ?_)
    · simp only [T.size]; omega
    · intro q hq
      rename (_ : Int) < 2 => b5
      rename 0 ≤ (_ : Int) => a5
      rcases List.mem_cons.mp hq with rfl | hq
      · unfold KeyOk; omega
      · exact (by assumption : ∀ k ∈ T.keys _, KeyOk k) q hq
    · omega
    · omega
    · simpa only [T.keys, List.append_assoc, List.cons_append, List.nil_append, List.append_nil] using J
  · rename News _ _ _ _ => N
    rename Fr _ _ _ _ => F
    rename IntsAre _ (_ ++ _) => J
    refine hQ _ (.un _) _ _ _ _ _ _ _ (got_end F N hst' rfl (by k_mem) (by k_mem) (.un (tupN N (.head _)) (kid (by assumption) F N (fun _ hp => by simp only [List.mem_cons, hp, or_true]))) ?_ ?_ ?_ ?_ ?_)
    · simp only [T.size]; omega
    · exact (by assumption : ∀ k ∈ T.keys _, KeyOk k)
    · omega
    · omega
    · simpa only [T.keys, List.append_assoc, List.cons_append, List.nil_append, List.append_nil] using J
  · rename News _ _ _ _ => N
    rename Fr _ _ _ _ => F
    rename IntsAre _ (_ ++ _) => J
    refine hQ _ (.slice _) _ _ _ _ _ _ _ (got_end F N hst' rfl (by k_mem) (by k_mem) (.slice (tupN N (.tail _ (.tail _ (.head _)))) (kid (by assumption) F N (fun _ hp => by simp only [List.mem_cons, hp, or_true]))) ?_ ?_ ?_ ?_ ?_)
    · simp only [T.size]; omega
    · exact (by assumption : ∀ k ∈ T.keys _, KeyOk k)
    · omega
    · omega
    · simpa only [T.keys, List.append_assoc, List.cons_append, List.nil_append, List.append_nil] using J
  · rename News _ _ _ _ => N
    rename Fr _ _ _ _ => F
    rename IntsAre _ (_ ++ _) => J
    refine hQ _ (.ext _) _ _ _ _ _ _ _ (got_end F N hst' rfl (by k_mem) (by k_mem) (.ext (tupN N (.tail _ (.head _))) (kid (by assumption) F N (fun _ hp => by simp only [List.mem_cons, hp, or_true]))) ?_ ?_ ?_ ?_ ?_)
    · simp only [T.size]; omega
    · exact (by assumption : ∀ k ∈ T.keys _, KeyOk k)
    · omega
    · omega
    · simpa only [T.keys, List.append_assoc, List.cons_append, List.nil_append, List.append_nil] using J
  · rename News _ _ _ _ => N
    rename Fr _ _ _ _ => F
    rename IntsAre _ (_ ++ _) => J
    refine hQ _ (.pick _ _) _ _ _ _ _ _ _ (got_end F N hst' rfl (by k_mem) (by k_mem) (.pick (tupN N (.head _)) (kid (by assumption) F N (fun _ hp => by simp only [List.mem_cons, hp, or_true])) (kid (kid_a (by assumption) (by assumption)) F N (fun _ hp => by simp only [List.mem_cons, hp, or_true]))) ?_ ?_ ?_ ?_ ?_)
    · simp only [T.size]; omega
    · exact keys2 (by assumption) (by assumption)
    · omega
    · omega
    · simpa only [T.keys, List.append_assoc, List.cons_append, List.nil_append, List.append_nil] using J
  · rename News _ _ _ _ => N
    rename Fr _ _ _ _ => F
    rename IntsAre _ (_ ++ _) => J
    refine hQ _ (.bin _ _) _ _ _ _ _ _ _ (got_end F N hst' rfl (by k_mem) (by k_mem) (.bin (tupN N (.tail _ (.tail _ (.head _)))) (kid (kid_a (by assumption) (by assumption)) F N (fun _ hp => by simp only [List.mem_cons, hp, or_true])) (kid (by assumption) F N (fun _ hp => by simp only [List.mem_cons, hp, or_true]))) ?_ ?_ ?_ ?_ ?_)
    · simp only [T.size]; omega
    · exact keys2 (by assumption) (by assumption)
    · omega
    · omega
    · simpa only [T.keys, List.append_assoc, List.cons_append, List.nil_append, List.append_nil] using J
  · rename News _ _ _ _ => N
    rename Fr _ _ _ _ => F
    rename IntsAre _ (_ ++ _) => J
    refine hQ _ (.pow _ _) _ _ _ _ _ _ _ (got_end F N hst' rfl (by k_mem) (by k_mem) (.pow (tupN N (.tail _ (.head _))) (kid (kid_a (by assumption) (by assumption)) F N (fun _ hp => by simp only [List.mem_cons, hp, or_true])) (kid (by assumption) F N (fun _ hp => by simp only [List.mem_cons, hp, or_true]))) ?_ ?_ ?_ ?_ ?_)
    · simp only [T.size]; omega
    · exact keys2 (by assumption) (by assumption)
    · omega
    · omega
    · simpa only [T.keys, List.append_assoc, List.cons_append, List.nil_append, List.append_nil] using J
  · rename News _ _ _ _ => N
    rename Fr _ _ _ _ => F
    rename IntsAre _ (_ ++ _) => J
    refine hQ _ (.cat _ _) _ _ _ _ _ _ _ (got_end F N hst' rfl (by k_mem) (by k_mem) (.cat (tupN N (.tail _ (.tail _ (.tail _ (.tail _ (.tail _ (.head _))))))) (tupN N (.tail _ (.tail _ (.tail _ (.tail _ (.tail _ (.tail _ (.head _)))))))) (kid (kid_a (by assumption) (by assumption)) F N (fun _ hp => by simp only [List.mem_cons, hp, or_true])) (kid (by assumption) F N (fun _ hp => by simp only [List.mem_cons, hp, or_true]))) ?_ ?_ ?_ ?_ ?_)
    · simp only [T.size]; omega
    · exact keys2 (by assumption) (by assumption)
    · omega
    · omega
    · simpa only [T.keys, List.append_assoc, List.cons_append, List.nil_append, List.append_nil] using J
  · rename News _ _ _ _ => N
    rename Fr _ _ _ _ => F
    rename IntsAre _ (_ ++ _) => J
    refine hQ _ (.call _ _) _ _ _ _ _ _ _ (got_end F N hst' rfl (by k_mem) (by k_mem) (.call (tupN N (.tail _ (.tail _ (.tail _ (.head _))))) (tupN N (.tail _ (.tail _ (.tail _ (.tail _ (.head _)))))) (kid (kid_a (by assumption) (by assumption)) F N (fun _ hp => by simp only [List.mem_cons, hp, or_true])) (kid (by assumption) F N (fun _ hp => by simp only [List.mem_cons, hp, or_true]))) ?_ ?_ ?_ ?_ ?_)
    · simp only [T.size]; omega
    · exact keys2 (by assumption) (by assumption)
    · omega
    · omega
    · simpa only [T.keys, List.append_assoc, List.cons_append, List.nil_append, List.append_nil] using J
  · rename News _ _ _ _ => N
    rename Fr _ _ _ _ => F
    rename IntsAre _ (_ ++ _) => J
    refine hQ _ (.sys _ _) _ _ _ _ _ _ _ (got_end F N hst' rfl (by k_mem) (by k_mem) (.sys (tupN N (.tail _ (.head _))) (tupN N (.tail _ (.tail _ (.head _)))) (kid (kid_a (by assumption) (by assumption)) F N (fun _ hp => by simp only [List.mem_cons, hp, or_true])) (kid (by assumption) F N (fun _ hp => by simp only [List.mem_cons, hp, or_true]))) ?_ ?_ ?_ ?_ ?_)
    · simp only [T.size]; omega
    · exact keys2 (by assumption) (by assumption)
    · omega
    · omega
    · simpa only [T.keys, List.append_assoc, List.cons_append, List.nil_append, List.append_nil] using J
  · rename News _ _ _ _ => N
    rename Fr _ _ _ _ => F
    rename IntsAre _ (_ ++ _) => J
    refine hQ _ (.cond _ _ _) _ _ _ _ _ _ _ (got_end F N hst' rfl (by k_mem) (by k_mem) (.cond (tupN N (.head _)) (kid (kid_a (kid_a (by assumption) (by assumption)) (by assumption)) F N (fun _ hp => by simp only [List.mem_cons, hp, or_true])) (kid (kid_a (by assumption) (by assumption)) F N (fun _ hp => by simp only [List.mem_cons, hp, or_true])) (kid (by assumption) F N (fun _ hp => by simp only [List.mem_cons, hp, or_true]))) ?_ ?_ ?_ ?_ ?_)
    · simp only [T.size]; omega
    · exact keys2 (keys2 (by assumption) (by assumption)) (by assumption)
    · omega
    · omega
    · simpa only [T.keys, List.append_assoc, List.cons_append, List.nil_append, List.append_nil] using J
end Mine
end

section
open PySem PySem.W PyProof.Rows PySem.Calls
set_option Elab.async false
set_option maxRecDepth 100000
set_option maxHeartbeats 16000000
namespace Mine
theorem offMKids : True := by
  w_top off
  trivial
set_option pp.deepTerms false
set_option pp.deepTerms.threshold 8
inductive Trees (P : Addr → Array Value → Prop) : List Value → List T → Prop where
  | nil : Trees P [] []
  | cons {v : Value} {t : T} {vs : List Value} {ts : List T} : TreeG P v t → Trees P vs ts → Trees P (v :: vs) (t :: ts)
theorem fill3 : ∀ (P : Params) (h : Heap), (Mine.hd.heap_39 P).In h → PySem.Challenge.rw_on0082_01.Holds → True := by
  k_fill
  intros; trivial
theorem tup_item {prog : Program} {w : World} {A : Around} {E : Value → Shared → Prop} {s : Shared} {g : Heap} {L a : Addr} {m : Str → Option Value} {value slice : PySem.Expr} {l : List Value} {i : Int} {u : Tok} {j : Nat} {v : Value} {Q : Value → Shared → Prop}
    (F : Fr g L s.heap m) (ht : IsTup g a l.toArray) (h0 : -(2 ^ 63) ≤ i) (h1 : i < 2 ^ 63) (hj : seqIndex? i l.length = some j) (hx : l[j]? = some v) (h : Q v s)
    (hs : subscripted slice false (.ref a) (.int i u) = operate [.ref a, .int i u] (getItem (.ref a) (.int i u)) := by with_unfolding_all rfl) :
    wpAny (model prog w) A (subscriptTail value slice (.ref a) (.int i u)) Q E s := item_tupleT (IsTup.keeps ht F.keep) h0 h1 hj hx h hs
local macro_rules | `(tactic| walk_at "subscriptTail") => `(tactic| (k_here; (with_reducible show wpAny _ _ (subscriptTail _ _ (Value.ref _) (Value.int _ _)) _ _ _); k_dflt (refine' tup_item ?F ?t ?a ?b ?j ?c ?_ ?d; (case F => k_asm); (case t => first | with_reducible assumption | exact IsTup.keeps (by assumption) (by assumption)); (case a => decide); (case b => decide); (case j => exact rfl); (case c => exact rfl); (case d => with_unfolding_all rfl))))
theorem kids_spec (w : World) (s : Shared) (mean : ExcName → Option Value) (mg mb : Str → Option Value) (b₀ : Heap) (B : Base w mean mg mb b₀) (hb : ∀ b o, b₀.get? b = some o → s.heap.get? b = some o)
    (dp un : Nat) (fr : List Env) (gd : Option (List Code)) (hdp : dp + 20 < recursionLimit) (hun : un + 200 < cLine) (v : Value) (t : T) (tr : TreeG (IsTup b₀) v t) (Q E : Value → Shared → Prop)
    (hQ : ∀ (b : Addr) (xs : List Value) (h' : Heap) (tk : Nat), Stay [] s.heap h' → IsTup h' b xs.toArray → Trees (IsTup b₀) xs t.kids → Q (.ref b) { s with heap := h', toks := tk }) :
    wpAny (model PySem.Challenge.rw_on0082_01.row.prog w) (Ard dp un fr gd) (call (.ref 21) [v]) Q E s := by
  refine' enter [] b₀ B hb ?hc ?hn ?ho ?hcd ?hroom ?hbind ?hloc ?h ?c1 ?c2 ?c3 ?c4
  case hc => exact fun _ hp => nomatch hp
  case hn => exact fun _ hp => nomatch hp
  case ho => k_is
  case hcd => k_is
  case hroom => show dp < recursionLimit; omega
  case hbind => exact BindsTo.of_eq rfl
  case hloc => exact locs rfl
  case c1 => exact rfl
  case c2 => exact rfl
  case c3 => exact rfl
  case c4 => decide
  case h =>
  intro g L' h₁ hsub hst' F' N' X' T'
  have hbg : ∀ b o, b₀.get? b = some o → g.get? b = some o := fun b o e => hst' b o (fun q => nomatch q) (hb b o e)
  cases tr
  all_goals (
    clear hb B hsub
    try dsimp only
    try k_fold
    k_steps)
  · rename News _ _ _ _ => N
    rename Fr _ _ _ _ => F
    exact hQ _ [] _ _ (stay_of hst' F) (tupN N (.head _)) .nil
  · rename News _ _ _ _ => N
    rename Fr _ _ _ _ => F
    exact hQ _ [] _ _ (stay_of hst' F) (tupN N (.head _)) .nil
  · rename News _ _ _ _ => N
    rename Fr _ _ _ _ => F
    exact hQ _ [] _ _ (stay_of hst' F) (tupN N (.head _)) .nil
  · rename News _ _ _ _ => N
    rename Fr _ _ _ _ => F
    exact hQ _ [_] _ _ (stay_of hst' F) (tupN N (.head _)) (.cons ((by assumption : TreeG (IsTup b₀) _ _)) .nil)
  · rename News _ _ _ _ => N
    rename Fr _ _ _ _ => F
    exact hQ _ [_] _ _ (stay_of hst' F) (tupN N (.head _)) (.cons ((by assumption : TreeG (IsTup b₀) _ _)) .nil)
  · rename News _ _ _ _ => N
    rename Fr _ _ _ _ => F
    exact hQ _ [_] _ _ (stay_of hst' F) (tupN N (.head _)) (.cons ((by assumption : TreeG (IsTup b₀) _ _)) .nil)
  · rename News _ _ _ _ => N
    rename Fr _ _ _ _ => F
    exact hQ _ [_] _ _ (stay_of hst' F) (tupN N (.head _)) (.cons ((by assumption : TreeG (IsTup b₀) _ _)) .nil)
  · rename News _ _ _ _ => N
    rename Fr _ _ _ _ => F
    exact hQ _ [_, _] _ _ (stay_of hst' F) (tupN N (.head _)) (.cons ((by assumption : TreeG (IsTup b₀) _ _)) (.cons ((by assumption : TreeG (IsTup b₀) _ _)) .nil))
  · rename News _ _ _ _ => N
    rename Fr _ _ _ _ => F
    exact hQ _ [_, _] _ _ (stay_of hst' F) (tupN N (.head _)) (.cons ((by assumption : TreeG (IsTup b₀) _ _)) (.cons ((by assumption : TreeG (IsTup b₀) _ _)) .nil))
  · rename News _ _ _ _ => N
    rename Fr _ _ _ _ => F
    exact hQ _ [_, _] _ _ (stay_of hst' F) (tupN N (.head _)) (.cons ((by assumption : TreeG (IsTup b₀) _ _)) (.cons ((by assumption : TreeG (IsTup b₀) _ _)) .nil))
  · dsimp only
    rename News _ _ _ _ => N
    rename Fr _ _ _ _ => F
    exact hQ _ [_, _] _ _ (stay_of hst' F) (IsTup.keeps (IsTup.keeps (by assumption) hbg) F.keep) (.cons ((by assumption : TreeG (IsTup b₀) _ _)) (.cons ((by assumption : TreeG (IsTup b₀) _ _)) .nil))
  · dsimp only
    rename News _ _ _ _ => N
    rename Fr _ _ _ _ => F
    exact hQ _ [_, _] _ _ (stay_of hst' F) (IsTup.keeps (IsTup.keeps (by assumption) hbg) F.keep) (.cons ((by assumption : TreeG (IsTup b₀) _ _)) (.cons ((by assumption : TreeG (IsTup b₀) _ _)) .nil))
  · dsimp only
    rename News _ _ _ _ => N
    rename Fr _ _ _ _ => F
    exact hQ _ [_, _] _ _ (stay_of hst' F) (IsTup.keeps (IsTup.keeps (by assumption) hbg) F.keep) (.cons ((by assumption : TreeG (IsTup b₀) _ _)) (.cons ((by assumption : TreeG (IsTup b₀) _ _)) .nil))
  · rename News _ _ _ _ => N
    rename Fr _ _ _ _ => F
    exact hQ _ [_, _, _] _ _ (stay_of hst' F) (tupN N (.head _)) (.cons ((by assumption : TreeG (IsTup b₀) _ _)) (.cons ((by assumption : TreeG (IsTup b₀) _ _)) (.cons ((by assumption : TreeG (IsTup b₀) _ _)) .nil)))
end Mine
end

section
open PySem PySem.W PyProof.Rows PySem.Calls
set_option Elab.async false
set_option maxRecDepth 100000
namespace Mine
theorem offMRev : True := by
  w_top off
  trivial
theorem slot_rev_next : Slot "reversed" "__next__" "reversed.__next__" :=
  .of (owner := "reversed") (n := "__next__") (by rw [typeLookup_type, builtinLookup_eq_fast]; kernel_rfl) (by decide +kernel) (by decide +kernel) (by decide +kernel)
    (by first | exact .inl (by decide +kernel) | exact .inr (by decide +kernel)) (by rw [isSubtype_type]; kernel_rfl)
theorem entry_rev_next : entryFor table "reversed.__next__" = some Builtin.«reversed.__next__» := entryFor_of_tree (by kernel_rfl)
theorem args_rev_next (a : Value) : argsOk "reversed.__next__" ⟨[a], []⟩ := by unfold argsOk; kernel_rfl
theorem slot_rev_iter : Slot "reversed" "__iter__" "reversed.__iter__" :=
  .of (owner := "reversed") (n := "__iter__") (by rw [typeLookup_type, builtinLookup_eq_fast]; kernel_rfl) (by decide +kernel) (by decide +kernel) (by decide +kernel)
    (by first | exact .inl (by decide +kernel) | exact .inr (by decide +kernel)) (by rw [isSubtype_type]; kernel_rfl)
theorem args_rev_iter (a : Value) : argsOk "reversed.__iter__" ⟨[a], []⟩ := by unfold argsOk; kernel_rfl
theorem entry_rev_iter : entryFor table "reversed.__iter__" = some Builtin.«dict_keyiterator.__iter__» :=
  entryFor_alias (id' := "dict_keyiterator.__iter__") (by kernel_rfl) (by first | rfl | decide +kernel | (unfold String.splitOn; simp +decide [String.splitOnAux])) (by decide +kernel) (by kernel_rfl)
theorem slot_rev_init : Slot "reversed" "__init__" "object.__init__" :=
  .of (owner := "object") (n := "__init__") (by rw [typeLookup_type, builtinLookup_eq_fast]; kernel_rfl) (by decide +kernel) (by decide +kernel) (by decide +kernel)
    (by first | exact .inl (by decide +kernel) | exact .inr (by decide +kernel)) (by rw [isSubtype_type]; kernel_rfl)
theorem called_rev : TypeCalled "reversed" "reversed.__new__" "object.__init__" :=
  ⟨by decide +kernel, by decide +kernel, ⟨_, _, F.mro_reversed⟩, F.made_reversed, by decide +kernel, F.sub_reversed_self, slot_rev_init⟩
theorem no_tuple_reversed : typeLookup (.type "tuple") "__reversed__" = pure none := by rw [typeLookup_type, builtinLookup_eq_fast]; kernel_rfl
theorem sub_tuple_dict : isSubtype (.type "tuple") (.type "dict") = pure false := by rw [isSubtype_type]; kernel_rfl
abbrev revT (l : Addr) (i : Int) : Obj := { cls := .type "reversed", data := .fields #[.ref l, rawInt i] }
def IsRevT (h : Heap) (a l : Addr) (i : Int) : Prop := ∃ o, h.get? a = some o ∧ o.cls = .type "reversed" ∧ o.data = .fields #[.ref l, rawInt i]
section
variable {prog : Program} {w : World} {A : Around} {E : Value → Shared → Prop} {s : Shared}
theorem IsRevT.typeIs {a l : Addr} {i : Int} (x : IsRevT s.heap a l i) : s.TypeIs (.ref a) "reversed" := let ⟨o, ho, hc, _⟩ := x; ⟨o, ho, hc⟩
theorem IsRevT.at {h h' : Heap} {a l : Addr} {i : Int} (x : IsRevT h a l i) (e : ∀ o, h.get? a = some o → h'.get? a = some o) : IsRevT h' a l i := let ⟨o, ho, r⟩ := x; ⟨o, e _ ho, r⟩
theorem tup_typeIs {t : Addr} {xs : Array Value} (x : IsTup s.heap t xs) : s.TypeIs (.ref t) "tuple" := let ⟨o, ho, hc, _⟩ := x; ⟨o, ho, hc⟩
theorem code_revT_new {t : Addr} {xs : Array Value} {Q₁ : Value → Shared → Prop} (ht : IsTup s.heap t xs) (hfit : (xs.size : Int) < 2 ^ 63)
    (h : ∀ tk, Q₁ (.ref s.heap.objs.size) { s with heap := s.heap.push (revT t ((xs.size : Int) - 1)), toks := tk }) :
    codeAny (model prog w) A (.call (.builtin "reversed.__new__") ⟨[.type "reversed", .ref t], []⟩) (wants Q₁ E) s := by
  refine codeAny_of_tree ?_
  show wpAny _ A.in1 (do checkBuiltinCall "reversed.__new__" ⟨[.type "reversed", .ref t], []⟩; again (.builtin "reversed.__new__" ⟨[.type "reversed", .ref t], []⟩)) _ _ s
  refine wpAny_bind (wpAny_of_eq (F.newCall_reversed_1 _) (wpAny_pure ⟨plainId_quiet F.plain_reversed_new _, codeAny_builtin F.entry_reversed_new ?_⟩))
  rw [Around.under_plainId F.plain_reversed_new _]
  unfold Builtin.«reversed.__new__»
  refine wpAny_bind (wpAny_of_eq (newClass_reversed _) ?_)
  try dsimp only
  refine wpAny_bind (wpAny_of_eq (a := ()) (by first | rfl | kernel_rfl) ?_)
  refine wpAny_bind (wpAny_of_eq (a := ()) (by first | rfl | kernel_rfl) ?_)
  try dsimp only
  refine wpAny_bind (wpAny_specialOf (tup_typeIs ht) no_tuple_reversed ?_)
  try dsimp only
  refine wpAny_bind ?_
  with_unfolding_all refine wpAny_bind (wpAny_isInstance (tup_typeIs ht) sub_tuple_dict ?_)
  rw [if_neg Bool.false_ne_true]
  refine wpAny_bind (wpAny_specialOf (tup_typeIs ht) slot_tuple_getitem.lookup ?_)
  dsimp only
  rw [if_pos (by decide +kernel)]
  refine wpAny_pure ?_
  rw [if_neg (by decide)]
  refine wpAny_bind (len_tuple ht hfit ?_)
  refine wpAny_bind (wpAny_pure ?_)
  dsimp only
  refine wpAny_bind (m := newObj (.type "reversed") (.fields #[.ref t, rawInt ((xs.size : Int) - 1)])) (wpAny_newObj_type (wpAny_pure ?_))
  exact h _
theorem call_revT {t : Addr} {xs : Array Value} {Q : Value → Shared → Prop} (ht : IsTup s.heap t xs) (hfit : (xs.size : Int) < 2 ^ 63)
    (h : ∀ tk, Q (.ref s.heap.objs.size) { s with heap := s.heap.push (revT t ((xs.size : Int) - 1)), toks := tk }) : wpAny (model prog w) A (call (.type "reversed") [.ref t]) Q E s := by
  refine callType_codes (Q₁ := fun obj s₁ => ∃ tk, obj = .ref s.heap.objs.size ∧ s₁ = { s with heap := s.heap.push (revT t ((xs.size : Int) - 1)), toks := tk }) called_rev (F.typeCall_reversed_1 _) F.entry_object_init (code_revT_new ht hfit fun tk => ⟨tk, rfl, rfl⟩) ?_
  rintro obj s₁ ⟨tk, rfl, rfl⟩
  have hT : Shared.TypeIs { s with heap := s.heap.push (revT t ((xs.size : Int) - 1)), toks := tk } (.ref s.heap.objs.size) "reversed" := ⟨_, Heap.get?_push_size _ rfl, rfl⟩
  exact ⟨hT, F.args_object_init_2 _ _, object_init_meets called_rev.init.lookup called_rev.made (by decide) prog w A.in1 _ _ ⟨hT, rfl, h tk⟩⟩
theorem pyNext_revT_item {it t : Addr} {i : Nat} {xs : Array Value} {x : Value} {Q : Option Value → Shared → Prop} (hit : IsRevT s.heap it t (i : Int)) (ht : IsTup s.heap t xs) (hfit : (xs.size : Int) < 2 ^ 63) (hx : xs[i]? = some x)
    (hQ : ∀ h' tk, IsRevT h' it t ((i : Int) - 1) → Heap.SameBut it s.heap h' → Q (some x) { s with heap := h', toks := tk }) : wpAny (model prog w) A (pyNext (.ref it)) Q E s := by
  obtain ⟨o, ho, hc, hd⟩ := id hit
  unfold pyNext
  refine wpAny_bind (wpAny_attempt (wpAny_callSpecial?_slot (name := Str.ofString "__next__") hit.typeIs slot_rev_next
    (wpAny_call_entry slot_rev_next hit.typeIs entry_rev_next ?_ (args_rev_next _))))
  unfold Builtin.«reversed.__next__»
  refine wpAny_bind (wpAny_of_eq (a := (Value.ref it, [])) rfl ?_)
  try dsimp only
  refine wpAny_bind (wpAny_field ho hd (x := .ref t) rfl ?_)
  refine wpAny_bind (wpAny_field ho hd (x := rawInt (i : Int)) rfl ?_)
  show wpAny _ _ (if (i : Int) < 0 then _ else _) _ _ s
  rw [if_neg (by omega)]
  refine wpAny_bind (wpAny_specialOf (tup_typeIs ht) slot_tuple_getitem.lookup ?_)
  rw [if_neg (by decide)]
  have hlt : i < xs.size := (Array.getElem?_eq_some_iff.mp hx).1
  refine wpAny_bind (m := mkInt _) (wpAny_mkInt ?_)
  refine wpAny_bind (wpAny_attempt (getItem_tuple (j := i) (x := x) (IsTup.keeps ht fun _ _ e => e) (by omega) (by omega) (by unfold seqIndex?; simp; omega) hx ?_))
  dsimp only
  refine wpAny_bind (wpAny_field ho hd (x := rawInt (i : Int)) rfl ?_)
  dsimp only [rawInt]
  refine wpAny_bind (wpAny_setField ho hd (by simp) ?_)
  refine wpAny_pure ⟨x, rfl, wpAny_pure (hQ _ _ ?_ (Heap.SameBut.update ..))⟩
  exact ⟨_, Heap.get?_update_self _ ho (Obj.isFreed_of_fields (Obj.data_mapFields hd _)), (Obj.cls_mapFields ..).trans hc, by
    rw [Obj.data_mapFields hd]; simp [rawInt]⟩
theorem pyNext_revT_end {it t : Addr} {Q : Option Value → Shared → Prop} (hh : A.handled = none) (hit : IsRevT s.heap it t (-1))
    (hQ : ∀ h', Heap.ExtBut it s.heap h' → Q none { s with heap := h' }) : wpAny (model prog w) A (pyNext (.ref it)) Q E s := by
  obtain ⟨o, ho, hc, hd⟩ := id hit
  unfold pyNext
  refine wpAny_bind (wpAny_attempt (wpAny_callSpecial?_slot (name := Str.ofString "__next__") hit.typeIs slot_rev_next
    (wpAny_call_entry slot_rev_next hit.typeIs entry_rev_next ?_ (args_rev_next _))))
  unfold Builtin.«reversed.__next__»
  refine wpAny_bind (wpAny_of_eq (a := (Value.ref it, [])) rfl ?_)
  try dsimp only
  refine wpAny_bind (wpAny_field ho hd (x := .ref t) rfl ?_)
  refine wpAny_bind (wpAny_field ho hd (x := rawInt (-1)) rfl ?_)
  show wpAny _ _ (if (-1 : Int) < 0 then _ else _) _ _ s
  rw [if_pos (by decide)]
  refine wpAny_bind (wpAny_rule ?_)
  refine wpAny_bind ?_
  with_unfolding_all refine wpAny_bind (wpAny_setField ho hd (by simp) ?_)
  have ho2 := Heap.get?_update_self (Obj.mapFields fun x => x.setIfInBounds 1 (rawInt (-1))) ho (Obj.isFreed_of_fields (Obj.data_mapFields hd _))
  refine wpAny_setField ho2 (Obj.data_mapFields hd _) (by simp) ?_
  refine wpAny_bind ?_
  show wpAny _ _ (newExc (.type "StopIteration") [] >>= _) _ _ _
  refine wpAny_bind ?_
  simp only [newExc, newTuple]
  refine wpAny_bind (wpAny_newObj_type ?_ (by size_fits))
  refine wpAny_bind (m := firstArgMember _ _) (wpAny_of_eq (a := Value.none) (by first | rfl | (simp only [firstArgMember]; rfl)) ?_)
  refine wpAny_newObj_type ?_ (by size_fits)
  simp only [raiseNew]
  refine wpAny_bind (wpAny_handled ?_)
  first | rw [show A.in1.handled = none from hh] | rw [hh]
  refine wpAny_bind (wpAny_pure (wpAny_throw ?_))
  refine wpAny_bind (wpAny_isInstance (T := "StopIteration") (b := true) ⟨_, Heap.get?_push_size _ rfl, rfl⟩ isSubtype_stop ?_)
  exact wpAny_pure (hQ _ (((((Heap.SameBut.update _ _ _).trans (Heap.SameBut.update _ _ _)).extBut).push _).push _))
theorem pyIter_revT {it t : Addr} {i : Int} {Q : Value → Shared → Prop} (hit : IsRevT s.heap it t i) (h : Q (.ref it) s) : wpAny (model prog w) A (pyIter (.ref it)) Q E s := by
  refine wpAny_pyIter_slot hit.typeIs slot_rev_iter (wpAny_call_entry slot_rev_iter hit.typeIs entry_rev_iter ?_ (args_rev_iter _))
  show wpAny _ _ (ret (.ref it)) _ _ s
  exact wpAny_pure ⟨_, rfl, "reversed", _, hit.typeIs, slot_rev_next.lookup, h⟩
end
theorem walks_revT {prog : Program} {w : World} {A : Around} (hh : A.handled = none) (I t : Addr) (hne : t ≠ I) (xs : Array Value) (hfit : (xs.size : Int) < 2 ^ 63) :
    Walks prog w A I [I, t] [I] xs.size (fun i v => xs[xs.size - 1 - i]? = some v) (fun i h => i ≤ xs.size ∧ IsRevT h I t ((xs.size : Int) - 1 - (i : Int)) ∧ IsTup h t xs) where
  sub := fun b hb => by simp at hb; simp [hb]
  frame := fun _ _ _ x hk => ⟨x.1, x.2.1.at fun o e => hk I (by simp) o e, by obtain ⟨o, ho, r⟩ := x.2.2; exact ⟨o, hk t (by simp) o ho, r⟩⟩
  item := fun i s Q E hi x hQ => by
    have e : (xs.size : Int) - 1 - (i : Int) = ((xs.size - 1 - i : Nat) : Int) := by omega
    have hit := x.2.1
    rw [e] at hit
    have hx : xs[xs.size - 1 - i]? = some (xs[xs.size - 1 - i]'(by omega)) := Array.getElem?_eq_getElem (by omega)
    refine pyNext_revT_item hit x.2.2 hfit hx fun h' tk hit' hs' => ?_
    have e2 : ((xs.size - 1 - i : Nat) : Int) - 1 = (xs.size : Int) - 1 - ((i + 1 : Nat) : Int) := by omega
    rw [e2] at hit'
    exact hQ _ h' tk hx ⟨hi, hit', by obtain ⟨o, ho, r⟩ := x.2.2; exact ⟨o, (hs'.2 t hne).trans ho, r⟩⟩ fun b o hb eo => hs'.extBut b o (fun h => hb (by simp [h])) eo
  done := fun s Q E x hQ => by
    have e : (xs.size : Int) - 1 - (xs.size : Int) = -1 := by omega
    have hit := x.2.1
    rw [e] at hit
    exact pyNext_revT_end hh hit fun h' he' => hQ h' s.toks fun b o hb eo => he' b o (fun h => hb (by simp [h])) eo
  self := fun _ _ _ _ x hQ => pyIter_revT x.2.1 hQ
end Mine
end

section
open PySem PySem.W PyProof.Rows PySem.Calls
set_option Elab.async false
set_option maxRecDepth 100000
namespace Mine
theorem offMFor : True := by
  w_top off
  trivial
/-- the end of a turn: what the turn's word names, and the loop's own objects, stand -/
def MEnd (h₀ : Heap) (L : Addr) (J : (Str → Option Value) → List (Addr × Obj) → Prop) (own : List (Addr × Obj)) (s₁ s₂ : Shared) : Prop :=
  ∃ h' tk m' news' nx, s₂ = { s₁ with heap := h', toks := tk } ∧ Fr h₀ L h' m' ∧ News h₀ L h' news' ∧ (∀ p ∈ nx, p ∈ news') ∧ (∀ p ∈ own, p ∈ news') ∧ J m' nx
def MPost (h₀ : Heap) (L : Addr) (J : (Str → Option Value) → List (Addr × Obj) → Prop) (own : List (Addr × Obj)) (s₁ : Shared) (Q : Flow → Shared → Prop) (f : Flow) (s₂ : Shared) : Prop :=
  match f with
  | .ret v => Q (.ret v) s₂
  | .brk => Q .next s₂
  | _ => MEnd h₀ L J own s₁ s₂
section
variable {prog : Program} {w : World} {A : Around} {E : Value → Shared → Prop} {s : Shared} {env : Env} {h₀ : Heap} {x : Str} {body : List Stmt} {Q : Flow → Shared → Prop}
theorem for_at {I : Addr} {fp wr : List Addr} {n : Nat} {P : Nat → Value → Prop} {St : Nat → Heap → Prop} {m : Str → Option Value} {news : List (Addr × Obj)} (J : Nat → (Str → Option Value) → List (Addr × Obj) → Prop)
    (W : Walks prog w A I fp wr n P St) (hLf : env.locals ∉ fp) (hwr : ∀ b ∈ wr, h₀.get? b = none) (hst : St 0 s.heap) (F : Fr h₀ env.locals s.heap m) (N : News h₀ env.locals s.heap news)
    (hJ : ∀ i m nx, J i m nx → ∀ p ∈ nx, p.1 ∉ fp) (h0 : J 0 m news)
    (turn : ∀ i v m₁ nx h tk own, i < n → P i v → (∀ p ∈ own, p.1 ∈ fp) → J i m₁ nx → Fr h₀ env.locals h (fun y => if y = x then some v else m₁ y) → News h₀ env.locals h (nx ++ own) →
      wpAny (model prog w) A (execs body env) (MPost h₀ env.locals (J (i + 1)) own { s with heap := h, toks := tk } Q) E { s with heap := h, toks := tk })
    (done : ∀ m₁ nx h tk, J n m₁ nx → Fr h₀ env.locals h m₁ → News h₀ env.locals h nx → Q .next { s with heap := h, toks := tk }) :
    LoopAtV prog w A h₀ env x body Q E (.ref I) s := by
  refine ⟨I, fp, wr, n, P, St, m, news, J, rfl, W, hLf, hwr, fun p hp q => hJ _ _ _ h0 p hp (W.sub _ q), hst, F, N, h0, ?_, fun h' tk m' news' F' N' _ hj => done m' news' h' tk hj F' N'⟩
  rintro i v m₁ news₁ s₁ own ⟨hh', tk', rfl⟩ hin hP hj _ hown _ _ _ F₁ N₁
  have N₂ : News h₀ env.locals hh' (news₁ ++ own) := fun p hp => N₁ p ((List.mem_append.mp hp).elim (fun h => List.mem_append.mpr (.inr h)) fun h => List.mem_append.mpr (.inl h))
  refine wpAny_mono (turn i v m₁ news₁ hh' tk' own hin hP hown hj F₁ N₂) (fun f s₂ p => ?_) fun _ _ e => e
  have fin : MEnd h₀ env.locals (J (i + 1)) own { s with heap := hh', toks := tk' } s₂ → LoopStepU h₀ env.locals wr own (J (i + 1)) { s with heap := hh', toks := tk' } .next s₂ := by
    rintro ⟨h', tk, m', news', nx, e, F', N', hn, ho, hm⟩
    exact ⟨rfl, h', tk, m', nx, e, F', fun p hp => N' p ((List.mem_append.mp hp).elim (ho p) (hn p)), fun p hp q => hJ _ _ _ hm p hp (W.sub _ q), hm⟩
  cases f with
  | ret v => exact p
  | brk => exact p
  | next => exact fin p
  | cont => exact fin p
theorem mend {L : Addr} {J : (Str → Option Value) → List (Addr × Obj) → Prop} {own news' nx : List (Addr × Obj)} {s₁ : Shared} {h' : Heap} {tk : Nat} {m' : Str → Option Value}
    (F : Fr h₀ L h' m') (N : News h₀ L h' news') (a : ∀ p ∈ nx, p ∈ news') (b : ∀ p ∈ own, p ∈ news') (j : J m' nx) : MEnd h₀ L J own s₁ { s₁ with heap := h', toks := tk } :=
  ⟨h', tk, m', news', nx, rfl, F, N, a, b, j⟩
end
end Mine
end

section
open PySem PySem.W PyProof.Rows PySem.Calls
set_option Elab.async false
set_option maxRecDepth 100000
set_option maxHeartbeats 16000000
namespace Mine
theorem offMSub : True := by
  w_top off
  trivial
set_option pp.deepTerms false
set_option pp.deepTerms.threshold 8
def T.pre : T → List T
  | .sig k => [.sig k]
  | .const k => [.const k]
  | .loc k => [.loc k]
  | .word k i => .word k i :: i.pre
  | .un x => .un x :: x.pre
  | .slice x => .slice x :: x.pre
  | .ext x => .ext x :: x.pre
  | .pick a b => .pick a b :: (a.pre ++ b.pre)
  | .bin a b => .bin a b :: (a.pre ++ b.pre)
  | .pow a b => .pow a b :: (a.pre ++ b.pre)
  | .cat a b => .cat a b :: (a.pre ++ b.pre)
  | .call a b => .call a b :: (a.pre ++ b.pre)
  | .sys a b => .sys a b :: (a.pre ++ b.pre)
  | .cond a b c => .cond a b c :: (a.pre ++ (b.pre ++ c.pre))
theorem pre_kids (t : T) : t.pre = t :: t.kids.flatMap T.pre := by cases t <;> simp [T.pre, T.kids]
theorem pre_size : ∀ t : T, t.pre.length = t.size
  | .sig _ | .const _ | .loc _ => rfl
  | .word _ i => by simp [T.pre, T.size, pre_size i]
  | .un x | .slice x | .ext x => by simp [T.pre, T.size, pre_size x]
  | .pick a b | .bin a b | .pow a b | .cat a b | .call a b | .sys a b => by simp [T.pre, T.size, pre_size a, pre_size b]
  | .cond a b c => by simp [T.pre, T.size, pre_size a, pre_size b, pre_size c, Nat.add_assoc]
theorem pre_keys : ∀ (t : T) (k : Int), (∃ n ∈ t.pre, k ∈ n.key) ↔ k ∈ t.keys
  | .sig _, k | .const _, k | .loc _, k => by simp [T.pre, T.keys, T.key]
  | .word _ i, k => by simp [T.pre, T.keys, T.key, ← pre_keys i k]
  | .un x, k | .slice x, k | .ext x, k => by simp [T.pre, T.keys, T.key, ← pre_keys x k]
  | .pick a b, k => by simp [T.pre, T.keys, T.key, ← pre_keys a k, ← pre_keys b k, or_and_right, exists_or, or_comm]
  | .bin a b, k | .pow a b, k | .cat a b, k | .call a b, k | .sys a b, k => by simp [T.pre, T.keys, T.key, ← pre_keys a k, ← pre_keys b k, or_and_right, exists_or]
  | .cond a b c, k => by simp [T.pre, T.keys, T.key, ← pre_keys a k, ← pre_keys b k, ← pre_keys c k, or_and_right, exists_or, or_assoc]
def sizes : List T → Nat
  | [] => 0
  | t :: r => t.size + sizes r
theorem sizes_app : ∀ a b : List T, sizes (a ++ b) = sizes a + sizes b
  | [], b => by simp [sizes]
  | t :: r, b => by simp [sizes, sizes_app r b, Nat.add_assoc]
theorem sizes_rev : ∀ a : List T, sizes a.reverse = sizes a
  | [] => rfl
  | t :: r => by simp [sizes, sizes_app, sizes_rev r, Nat.add_comm]
theorem flat_len : ∀ l : List T, l.length ≤ (l.flatMap T.pre).length
  | [] => Nat.le_refl _
  | t :: r => by
    have := flat_len r
    have h := pre_size t
    have h1 : 1 ≤ t.size := by cases t <;> simp [T.size]
    rw [List.flatMap_cons, List.length_append, List.length_cons]; omega
theorem sizes_kids (t : T) : sizes t.kids + 1 = t.size := by cases t <;> simp [T.kids, sizes, T.size, Nat.add_assoc]
theorem Trees.length {P : Addr → Array Value → Prop} {vs : List Value} {ts : List T} (h : Trees P vs ts) : vs.length = ts.length := by
  induction h with
  | nil => rfl
  | cons _ _ ih => simp [ih]
theorem Trees.append {P : Addr → Array Value → Prop} {vs us : List Value} {ts rs : List T} (h : Trees P vs ts) (k : Trees P us rs) : Trees P (vs ++ us) (ts ++ rs) := by
  induction h with
  | nil => exact k
  | cons t _ ih => exact .cons t ih
theorem Trees.reverse {P : Addr → Array Value → Prop} {vs : List Value} {ts : List T} (h : Trees P vs ts) : Trees P vs.reverse ts.reverse := by
  induction h with
  | nil => exact .nil
  | cons t _ ih => rw [List.reverse_cons, List.reverse_cons]; exact ih.append (.cons t .nil)
theorem Trees.last {P : Addr → Array Value → Prop} : ∀ {vs : List Value} {ts : List T}, Trees P vs ts → (vs = [] ∧ ts = []) ∨ ∃ p y ps t, vs = p ++ [y] ∧ ts = ps ++ [t] ∧ Trees P p ps ∧ TreeG P y t
  | _, _, .nil => .inl ⟨rfl, rfl⟩
  | _, _, .cons (v := v) (t := t) (vs := vs) (ts := ts) h r => by
    rcases r.last with ⟨rfl, rfl⟩ | ⟨p, y, ps, u, rfl, rfl, hp, hu⟩
    · exact .inr ⟨[], v, [], t, rfl, rfl, .nil, h⟩
    · exact .inr ⟨v :: p, y, t :: ps, u, rfl, rfl, .cons h hp, hu⟩
theorem Trees.mono {P P' : Addr → Array Value → Prop} (k : ∀ a xs, P a xs → P' a xs) {vs : List Value} {ts : List T} (h : Trees P vs ts) : Trees P' vs ts := by
  induction h with
  | nil => exact .nil
  | cons t _ ih => exact .cons (t.mono k) ih
end Mine
end

section
open PySem PySem.W PyProof.Rows PySem.Calls
set_option Elab.async false
set_option maxRecDepth 100000
set_option maxHeartbeats 16000000
namespace Mine
theorem offMSub2 : True := by
  w_top off
  trivial
set_option pp.deepTerms false
set_option pp.deepTerms.threshold 8
section
variable {w : World} {s : Shared} {mean : ExcName → Option Value} {mg mb : Str → Option Value} {Q E : Value → Shared → Prop} {dp un : Nat} {fr : List Env} {gd : Option (List Code)}
  {g : Heap} {L : Addr} {m : Str → Option Value} {news : List (Addr × Obj)}
theorem news_stay {h h' : Heap} (N : News g L h news) (st : Stay [] h h') : News g L h' news := fun p hp => ⟨st _ _ (fun q => nomatch q) (N p hp).1, (N p hp).2⟩
theorem kids_K {b₀ : Heap} {v : Value} {t : T} (B : Base w mean mg mb b₀) (hbg : ∀ b o, b₀.get? b = some o → g.get? b = some o) (F : Fr g L s.heap m) (N : News g L s.heap news)
    (tr : TreeG (IsTup b₀) v t) (hdp : dp + 20 < recursionLimit) (hun : un + 200 < cLine)
    (h : ∀ b xs h' tk, Fr g L h' m → News g L h' news → IsTup h' b xs.toArray → Trees (IsTup b₀) xs t.kids → Q (.ref b) { s with heap := h', toks := tk }) :
    wpAny (model PySem.Challenge.rw_on0082_01.row.prog w) (Ard dp un fr gd) (call (.ref 21) [v]) Q E s :=
  kids_spec w s mean mg mb b₀ B (fun b o e => F.keep b o (hbg b o e)) dp un fr gd hdp hun v t tr Q E fun b xs h' tk st ht hk =>
    h b xs h' tk (fr_stay F st fun _ ha => nomatch ha) (news_stay N st) ht hk
end
section
variable {prog : Program} {w : World} {A : Around} {s : Shared} {E : Value → Shared → Prop} {g : Heap} {L : Addr} {m : Str → Option Value} {news : List (Addr × Obj)}
theorem rev_K {b : Addr} {xs : List Value} {Q : Value → Shared → Prop} (F : Fr g L s.heap m) (N : News g L s.heap news) (ht : IsTup s.heap b xs.toArray) (hx : xs.length ≤ 1000)
    (h : ∀ I h' tk, Fr g L h' m → News g L h' ((I, revT b ((xs.length : Int) - 1)) :: news) → IsTup h' b xs.toArray → b < I → (∀ p ∈ news, p.1 < I) → L < I → Q (.ref I) { s with heap := h', toks := tk }) :
    wpAny (model prog w) A (call (.type "reversed") [.ref b]) Q E s := by
  refine call_revT ht (by simp only [List.size_toArray]; omega) fun tk => ?_
  have e : ((xs.toArray.size : Nat) : Int) - 1 = (xs.length : Int) - 1 := by simp
  rw [e]
  refine h _ _ tk (F.push _) (News.push F N _) ?_ ?_ (fun p hp => Heap.lt_size (N p hp).1) F.ns.lt
  · obtain ⟨o, ho, r⟩ := ht
    exact ⟨o, Heap.get?_push_of_some _ ho, r⟩
  · obtain ⟨o, ho, r⟩ := ht
    exact Heap.lt_size ho
theorem append_V {D : Addr} {us : List Value} {n : Nat} {x : Value} {gf : Obj → List (Addr × Obj)} {Q : Value → Shared → Prop} (F : Fr g L s.heap m) (N : News g L s.heap news) (U : UpdF D (PySem.W.listOf us.toArray n) news gf) (hl : us.length ≤ 2000)
    (h : ∀ h', Fr g L h' m → News g L h' (gf (PySem.W.listOf (us ++ [x]).toArray (n + 1))) → Q .none { s with heap := h' }) :
    wpAny (model prog w) A (call (.builtin "list.append") [.ref D, x]) Q E s := by
  obtain ⟨pre, post, e0, hg, a, b⟩ := U.split
  have z := N (D, PySem.W.listOf us.toArray n) (by rw [e0]; exact List.mem_append.mpr (.inr (.head _)))
  refine append_at (hsz := by rw [sizeLine_eq]; simp only [List.size_toArray]; omega) z.1 fun h' hs ho' => ?_
  refine h h' (F.change hs z.2.1 z.2.2) ?_
  refine Mine.news_set N U (fun c o hc e => (hs.2 c (by simpa using hc)).trans e) ?_
  rw [ho']; simp
theorem pop_V {D : Addr} {p : List Value} {y : Value} {n : Nat} {Q : Value → Shared → Prop} (F : Fr g L s.heap m) (N : News g L s.heap news) {news' : List (Addr × Obj)} (U : Upd D (PySem.W.listOf (p ++ [y]).toArray n) (PySem.W.listOf p.toArray (n + 1)) news news') (hl : p.length ≤ 2000)
    (h : ∀ h', Fr g L h' m → News g L h' news' → Q y { s with heap := h' }) :
    wpAny (model prog w) A (call (.builtin "list.pop") [.ref D]) Q E s :=
  kl_pop (p := p) (y := y) F N (by rw [List.toList_toArray]; exact kpa_last y p) U (by rw [sizeLine_eq, List.toList_toArray, List.length_append]; simp only [List.length_cons, List.length_nil]; omega) h
theorem truthy_nil {D : Addr} {n : Nat} {Q : Bool → Shared → Prop} (N : News g L s.heap news) (hm : (D, PySem.W.listOf ([] : List Value).toArray n) ∈ news) (h : Q false { s with toks := s.toks + 1 + 1 }) : wpAny (model prog w) A (truthy (.ref D)) Q E s :=
  wpAny_truthy_list (items := ([] : List Value).toArray) ⟨_, (N _ hm).1, rfl, _, rfl⟩ (by decide) h
theorem truthy_snoc {D : Addr} {p : List Value} {y : Value} {n : Nat} {Q : Bool → Shared → Prop} (N : News g L s.heap news) (hm : (D, PySem.W.listOf (p ++ [y]).toArray n) ∈ news) (hl : p.length ≤ 2000) (h : Q true { s with toks := s.toks + 1 + 1 }) : wpAny (model prog w) A (truthy (.ref D)) Q E s :=
  wpAny_truthy_list (items := (p ++ [y]).toArray) ⟨_, (N _ hm).1, rfl, _, rfl⟩ (by simp only [List.size_toArray, List.length_append, List.length_cons, List.length_nil]; omega) (by
    have e : (!((p ++ [y]).toArray.isEmpty)) = true := by cases p <;> rfl
    rw [e]; exact h)
/-- the loop over reversed(tuple): what the turn's body turns is one list -/
theorem for_rev {env : Env} {x : Str} {body : List Stmt} {Q : Flow → Shared → Prop} {I b D D2 : Addr} {xs sv : List Value} {n : Nat} {o2 : Obj} {news : List (Addr × Obj)} (hh : A.handled = none) (F : Fr g env.locals s.heap m)
    (N : News g env.locals s.heap ((I, revT b ((xs.length : Int) - 1)) :: news)) (hD : (D, PySem.W.listOf sv.toArray n) ∈ news) (hD2 : (D2, o2) ∈ news) (hc2 : o2.cls = .type "list") (ht : IsTup s.heap b xs.toArray) (hb : b < I) (hlt : ∀ p ∈ news, p.1 < I) (hLI : env.locals < I) (hx : xs.length ≤ 1000)
    (turn : ∀ v pushed n' h tk own, (∀ p ∈ own, p.1 ≠ D) → (∀ p ∈ own, p.1 ≠ D2) → (∃ i, i < xs.length ∧ pushed = sv ++ xs.reverse.take i ∧ pushed ++ [v] = sv ++ xs.reverse.take (i + 1)) →
      Fr g env.locals h (fun y => if y = x then some v else m y) → News g env.locals h ((D, PySem.W.listOf pushed.toArray n') :: (D2, o2) :: own) →
      wpAny (model prog w) A (execs body env) (MPost g env.locals (fun m' nx => ∃ n'', nx = [(D, PySem.W.listOf (pushed ++ [v]).toArray n''), (D2, o2)] ∧ ∀ z, z ≠ x → m' z = m z) own { s with heap := h, toks := tk } Q) E { s with heap := h, toks := tk })
    (done : ∀ m' n' h tk, (∀ z, z ≠ x → m' z = m z) → Fr g env.locals h m' → News g env.locals h [(D, PySem.W.listOf (sv ++ xs.reverse).toArray n'), (D2, o2)] → Q .next { s with heap := h, toks := tk }) :
    wpAny (model prog w) A (pyIter (.ref I)) (fun it s₂ => LoopAtV prog w A g env x body Q E it s₂) E s := by
  have hI := N _ (.head _)
  have hit : IsRevT s.heap I b ((xs.length : Int) - 1) := ⟨_, hI.1, rfl, rfl⟩
  refine pyIter_revT hit ?_
  have hDI := hlt _ hD
  have hD2I := hlt _ hD2
  have hbL : b ≠ env.locals := by
    rintro rfl
    obtain ⟨o, ho, _, k, hd⟩ := ht
    obtain ⟨oL, es, ep, hL, hLd, _⟩ := F.ns
    rw [ho] at hL; cases hL
    rw [hd] at hLd; cases hLd
  have hbD : D ≠ b := by
    rintro rfl
    obtain ⟨o, ho, hc, _⟩ := ht
    rw [(N _ (.tail _ hD)).1] at ho; cases ho
    exact listNeTup hc
  have hbD2 : D2 ≠ b := by
    rintro rfl
    obtain ⟨o, ho, hc, _⟩ := ht
    rw [(N _ (.tail _ hD2)).1] at ho; cases ho
    rw [hc2] at hc
    exact listNeTup hc
  have hfit : ((xs.toArray.size : Nat) : Int) < 2 ^ 63 := by simp only [List.size_toArray]; omega
  have W := walks_revT (prog := prog) (w := w) hh I b (Nat.ne_of_lt hb) xs.toArray hfit
  have notfp : ∀ (i : Nat) (m' : Str → Option Value) (nx : List (Addr × Obj)), (∃ n', nx = [(D, PySem.W.listOf (sv ++ xs.reverse.take i).toArray n'), (D2, o2)] ∧ ∀ z, z ≠ x → m' z = m z) → ∀ p ∈ nx, p.1 ∉ [I, b] := by
    rintro i m' nx ⟨n', rfl, _⟩ p hp
    have e : p.1 = D ∨ p.1 = D2 := by
      rcases List.mem_cons.mp hp with rfl | hp
      · exact .inl rfl
      · rcases List.mem_cons.mp hp with rfl | hp
        · exact .inr rfl
        · cases hp
    intro q
    rcases List.mem_cons.mp q with q | q
    · rcases e with e | e
      · exact Nat.ne_of_lt hDI (e ▸ q)
      · exact Nat.ne_of_lt hD2I (e ▸ q)
    · have q := List.mem_singleton.mp q
      rcases e with e | e
      · exact hbD (e ▸ q)
      · exact hbD2 (e ▸ q)
  refine for_at (fun i (m' : Str → Option Value) nx => ∃ n', nx = [(D, PySem.W.listOf (sv ++ xs.reverse.take i).toArray n'), (D2, o2)] ∧ ∀ z, z ≠ x → m' z = m z) W ?_ ?_ ?_ F (news := [(D, PySem.W.listOf sv.toArray n), (D2, o2)]) ?_ notfp ⟨n, by simp, fun _ _ => rfl⟩ ?_ ?_
  · intro q
    rcases List.mem_cons.mp q with q | q
    · exact Nat.ne_of_lt hLI q
    · exact hbL (List.mem_singleton.mp q).symm
  · intro c hc
    rw [List.mem_singleton.mp hc]; exact hI.2.2
  · refine ⟨Nat.zero_le _, ?_, ht⟩
    have e : ((xs.toArray.size : Nat) : Int) - 1 - ((0 : Nat) : Int) = (xs.length : Int) - 1 := by simp
    rw [e]; exact hit
  · intro p hp
    rcases List.mem_cons.mp hp with rfl | hp
    · exact N _ (.tail _ hD)
    · rw [List.mem_singleton.mp hp]; exact N _ (.tail _ hD2)
  · rintro i v m₁ nx h tk own hi hP hown ⟨n', rfl, hm⟩ F₁ N₁
    simp only [List.size_toArray] at hi hP
    have hv : xs.reverse[i]? = some v := by
      rw [List.getElem?_reverse hi]; simpa using hP
    have et : xs.reverse.take (i + 1) = xs.reverse.take i ++ [v] := by rw [List.take_add_one, hv]; rfl
    have em : (fun y => if y = x then some v else m₁ y) = fun y => if y = x then some v else m y := by
      funext z
      by_cases hz : z = x
      · simp [hz]
      · simp only [if_neg hz]; exact hm z hz
    rw [em] at F₁
    have hoff : ∀ c, c ∉ [I, b] → ∀ p ∈ own, p.1 ≠ c := fun c hc p hp e => hc (e ▸ hown p hp)
    have := turn v (sv ++ xs.reverse.take i) n' h tk own
      (hoff D (notfp i m _ ⟨n', rfl, fun _ _ => rfl⟩ _ (.head _))) (hoff D2 (notfp i m _ ⟨n', rfl, fun _ _ => rfl⟩ _ (.tail _ (.head _)))) ⟨i, hi, rfl, by rw [et, List.append_assoc]⟩ F₁ N₁
    rw [et, ← List.append_assoc]
    exact this
  · rintro m₁ nx h tk ⟨n', rfl, hm⟩ F₁ N₁
    simp only [List.size_toArray] at N₁
    rw [show xs.length = xs.reverse.length from List.length_reverse.symm, List.take_length] at N₁
    exact done m₁ n' h tk hm F₁ N₁
end
end Mine
end

section
open PySem PySem.W PyProof.Rows PySem.Calls
set_option Elab.async false
set_option maxRecDepth 100000
set_option maxHeartbeats 16000000
namespace Mine
theorem offMSub3 : True := by
  w_top off
  trivial
set_option pp.deepTerms false
set_option pp.deepTerms.threshold 8
theorem fill4 : ∀ (P : Params) (h : Heap), (Mine.hd.heap_39 P).In h → PySem.Challenge.rw_on0082_01.Holds → True := by
  k_fill
  intros; trivial
theorem kids_len (t : T) : t.kids.length ≤ 3 := by cases t <;> simp [T.kids]
theorem rev_len {P : Addr → Array Value → Prop} {xs : List Value} {t : T} (h : Trees P xs t.kids) : xs.length ≤ 1000 := by
  have := h.length; have := kids_len t; omega
local macro_rules | `(tactic| k_all) => `(tactic| assumption)
local macro_rules | `(tactic| walk_at "call ref") => `(tactic| (k_here; k_dflt (refine' kids_K ?B ?g ?F ?N ?t ?d ?u ?_; (case B => assumption); (case g => assumption); (case F => k_asm); (case N => k_asm); (case t => assumption); (case d => (dsimp only [Ard]; omega)); (case u => (dsimp only [Ard]; omega))); intro b' x' h' tk' F' N' t' c'; (try k_sweep)))
local macro_rules | `(tactic| walk_at "call type:reversed") => `(tactic| (k_here; k_dflt (refine' rev_K ?F ?N ?t ?l ?_; (case F => k_asm); (case N => k_asm); (case t => assumption); (case l => (refine rev_len (by assumption)))); intro I' h' tk' F' N' t' l1 l2 l3; (try k_lt l2); (try k_sweep)))
def Hold (p : Prop) : Prop := p
theorem hold {p : Prop} (h : Hold p) : p := h
local macro_rules | `(tactic| walk_at "exec While Name cons nil") => `(tactic| refine hold ?_)
local macro_rules | `(tactic| walk_at "exec For Name Call cons nil") => `(tactic| (k_here; (rename Fr _ _ _ _ => lF'); (with_unfolding_all refine' For_invVF lF' ?k1 ?k2 ?_; (case k1 => exact rfl); (case k2 => exact rfl); k_whole)))
local macro_rules | `(tactic| walk_at "MPost") => `(tactic| dsimp only [MPost])
local macro_rules | `(tactic| walk_at "MEnd") => `(tactic| refine hold ?_)
structure SubSt where
  fv : List Value
  ft : List T
  sv : List Value
  st : List T
  n1 : Nat
  n2 : Nat
local macro_rules | `(tactic| walk_at "truthy ref") => `(tactic| (k_here; k_dflt (first
  | (refine' truthy_snoc ?N ?m ?l ?_; (case N => k_asm); (case m => k_mem); (case l => omega))
  | (refine' truthy_nil ?N ?m ?_; (case N => k_asm); (case m => k_mem)))))
local macro_rules | `(tactic| walk_at "call builtin:list.pop") => `(tactic| (k_here; k_dflt (refine' pop_V ?F ?N ?U ?l ?_; (case F => k_asm); (case N => k_asm); (case U => k_upd); (case l => omega)); intro h' F' N'; (try k_sweep)))
local macro_rules | `(tactic| walk_at "call builtin:list.append") => `(tactic| (k_here; k_dflt (refine' append_V ?F ?N ?U ?l ?_; (case F => k_asm); (case N => k_asm); (case U => k_updF); (case l => first | omega | assumption)); intro h' F' N'; (try dsimp only at N'); (try k_sweep)))
local macro_rules | `(tactic| walk_at "pyIter ref") => `(tactic| ((with_reducible show wpAny _ _ (pyIter (Value.ref _)) (fun it s₂ => LoopAtV _ _ _ _ _ _ _ _ _ it s₂) _ _); k_here; refine hold ?_))
theorem sub_spec (w : World) (s : Shared) (mean : ExcName → Option Value) (mg mb : Str → Option Value) (b₀ : Heap) (B : Base w mean mg mb b₀) (hb : ∀ b o, b₀.get? b = some o → s.heap.get? b = some o)
    (dp un : Nat) (fr : List Env) (gd : Option (List Code)) (hdp : dp + 40 < recursionLimit) (hun : un + 250 < cLine) (v : Value) (t : T) (tr : TreeG (IsTup b₀) v t) (hz : t.size ≤ 100) (Q E : Value → Shared → Prop)
    (hQ : ∀ (b : Addr) (xs : List Value) (n : Nat) (h' : Heap) (tk : Nat), Stay [] s.heap h' → s.heap.get? b = none → h'.get? b = some (PySem.W.listOf xs.toArray n) → Trees (IsTup b₀) xs t.pre → Q (.ref b) { s with heap := h', toks := tk }) :
    wpAny (model PySem.Challenge.rw_on0082_01.row.prog w) (Ard dp un fr gd) (call (.ref 28) [v]) Q E s := by
  refine' enter [] b₀ B hb ?hc ?hn ?ho ?hcd ?hroom ?hbind ?hloc ?h ?c1 ?c2 ?c3 ?c4
  case hc => exact fun _ hp => nomatch hp
  case hn => exact fun _ hp => nomatch hp
  case ho => k_is
  case hcd => k_is
  case hroom => show dp < recursionLimit; omega
  case hbind => exact BindsTo.of_eq rfl
  case hloc => exact locs rfl
  case c1 => exact rfl
  case c2 => exact rfl
  case c3 => exact rfl
  case c4 => decide
  case h =>
  intro g L' h₁ hsub hst' F' N' X' T'
  have hbg : ∀ b o, b₀.get? b = some o → g.get? b = some o := fun b o e => hst' b o (fun q => nomatch q) (hb b o e)
  clear hb
  try dsimp only
  try k_fold
  k_steps
  rename_i fA h3 la h2 tk0 sA h1 lb h F N
  have hne : @Ne Nat fA sA := Nat.ne_of_lt lb
  refine ksw_while (fun c : SubSt => [(sA, PySem.W.listOf c.sv.toArray c.n2), (fA, PySem.W.listOf c.fv.toArray c.n1)]) (fun _ => [(Str.ofString "stack", .ref sA), (Str.ofString "found", .ref fA)])
    (fun c => Trees (IsTup b₀) c.fv c.ft ∧ Trees (IsTup b₀) c.sv c.st ∧ c.ft ++ c.st.reverse.flatMap T.pre = t.pre) [Str.ofString "node", Str.ofString "part"] (fun _ => True) (fun c => sizes c.st) ⟨[], [], [v], [t], 0, 0⟩ F N
    ⟨.nil, .cons tr .nil, by simp⟩ ?_ trivial ?_
  · intro p hp
    rcases List.mem_cons.mp hp with rfl | hp
    · rfl
    · rcases List.mem_singleton.mp hp with rfl; rfl
  · rintro ⟨fv, ft, sv, stt, n1, n2⟩ u h' tk' ⟨hf, hs, he⟩ _ F' N'
    dsimp only at hf hs he N' F'
    have hlen : fv.length ≤ 100 := by
      rw [hf.length]
      have := congrArg List.length he
      rw [List.length_append, pre_size] at this
      omega
    rcases hs.last with ⟨rfl, rfl⟩ | ⟨p, y, ps, yt, rfl, rfl, hp, hy⟩
    · k_steps
      dsimp only
      rename News _ _ _ _ => N
      rename Fr _ _ _ _ => F
      have hfa := N _ (.tail _ (.head _))
      refine hQ fA fv n1 _ _ (stay_of hst' F) ?_ hfa.1 ?_
      · cases q : s.heap.get? fA with
        | none => rfl
        | some o => have := hst' fA o (fun q => nomatch q) q; rw [hfa.2.2] at this; cases this
      · have e : ft = t.pre := by simpa using he
        rw [← e]; exact hf
    · have hpl : p.length ≤ 100 := by
        rw [hp.length]
        have := congrArg List.length he
        have h9 := flat_len (ps ++ [yt]).reverse
        rw [List.length_append, pre_size] at this
        rw [List.length_reverse, List.length_append] at h9
        omega
      k_steps
      rename_i I' hI tkI F2 N2 ht2 l1 l3 l2
      rename_i hk2
      rename_i tk3
      rename_i h3
      rename_i xs2
      rename_i b2
      have hxl := rev_len hk2
      refine for_rev rfl F2 N2 (D := sA) (D2 := fA) (sv := p) (.head _) (.tail _ (.head _)) rfl ht2 l1 ?_ l3 hxl ?_ ?_
      · intro q hq
        rcases List.mem_cons.mp hq with rfl | hq
        · exact l2.1
        · rcases List.mem_singleton.mp hq with rfl; exact l2.2
      · rintro v' pushed n' h5 tk5 own ho1 ho2 ⟨i, hi, e1, e2⟩ F5 N5
        have hpush : pushed.length ≤ 2000 := by
          rw [e1, List.length_append, List.length_take, List.length_reverse]; omega
        clear N2 F2 ht2
        try k_fold
        k_steps
        rename News _ _ _ _ => N6
        rename Fr _ _ _ _ => F6
        exact mend F6 N6 (fun q hq => by
          rcases List.mem_cons.mp hq with rfl | hq
          · exact .head _
          · rcases List.mem_singleton.mp hq with rfl; exact .tail _ (.head _)) (fun q hq => .tail _ (.tail _ hq)) ⟨_, rfl, fun z hz => if_neg hz⟩
      · intro m' n' h5 tk5 hm5 F5 N5
        clear N2 F2 ht2
        try k_fold
        k_steps
        refine ksw_end ⟨fv ++ [y], ft ++ [yt], p ++ b2.reverse, ps ++ yt.kids.reverse, n1 + 1, n'⟩ F5 N5 (fun _ hq => hq) ⟨hf.append (.cons hy .nil), hp.append hk2.reverse, ?_⟩ ?_ ?_ trivial ?_
        · rw [← he]
          simp [pre_kids yt]
        · intro q hq
          rcases List.mem_cons.mp hq with rfl | hq
          · exact (hm5 (Str.ofString "stack") (by decide)).trans rfl
          · rcases List.mem_singleton.mp hq with rfl; exact (hm5 (Str.ofString "found") (by decide)).trans rfl
        · intro z hz hcz
          have z1 : z ≠ Str.ofString "stack" := hz _ (.head _)
          have z2 : z ≠ Str.ofString "found" := hz _ (.tail _ (.head _))
          have z3 : z ≠ Str.ofString "part" := by rintro rfl; exact absurd hcz (by decide)
          have z4 : z ≠ Str.ofString "node" := by rintro rfl; exact absurd hcz (by decide)
          rw [hm5 z z3, if_neg z4]
          simp only [kstB, if_neg z1, if_neg z2, hcz, Bool.false_eq_true, if_false]
        · show sizes (ps ++ yt.kids.reverse) < sizes (ps ++ [yt])
          have := sizes_kids yt
          rw [sizes_app, sizes_app, sizes_rev]
          simp only [sizes]; omega
end Mine
end

section
open PySem PySem.W PyProof.Rows PySem.Calls
set_option Elab.async false
set_option maxRecDepth 100000
set_option maxHeartbeats 16000000
namespace Mine
theorem offMDict : True := by
  w_top off
  trivial
set_option pp.deepTerms false
set_option pp.deepTerms.threshold 8
theorem stored_mem {kvs : List (Int × Value)} {k : Int} {v : Value} {k' : Int} : k' ∈ (stored kvs k v).map (·.1) ↔ k' ∈ kvs.map (·.1) ∨ k' = k := by
  unfold stored
  split
  · rename_i h
    have e : (kvs.map fun kv => if kv.1 = k then (kv.1, v) else kv).map (·.1) = kvs.map (·.1) := by
      rw [List.map_map]
      apply List.map_congr_left
      intro a _
      simp only [Function.comp]
      split <;> rfl
    rw [e]
    constructor
    · exact .inl
    · rintro (h' | rfl)
      · exact h'
      · obtain ⟨a, ha, e⟩ := List.any_eq_true.mp h
        exact List.mem_map.mpr ⟨a, ha, by simpa using e⟩
  · rw [List.map_append, List.mem_append]
    simp
theorem nodup_le {α : Type} [DecidableEq α] : ∀ (l b : List α), l.Nodup → (∀ x ∈ l, x ∈ b) → l.length ≤ b.length
  | [], _, _, _ => Nat.zero_le _
  | x :: r, b, hn, hs => by
    have hx := hs x (.head _)
    have hr := List.nodup_cons.mp hn
    have := nodup_le r (b.erase x) hr.2 fun y hy => (List.mem_erase_of_ne (fun e : y = x => hr.1 (e ▸ hy))).mpr (hs y (.tail _ hy))
    rw [List.length_erase_of_mem hx] at this
    have hp : 0 < b.length := List.length_pos_of_mem hx
    rw [List.length_cons]; omega
theorem keyOk_mem {k : Int} : KeyOk k ↔ k ∈ [(0 : Int), 1, 2, 3, 4, 10, 11] := by unfold KeyOk; simp
theorem keys_le {l : List Int} (hn : l.Nodup) (hk : ∀ k ∈ l, KeyOk k) : l.length ≤ 7 := nodup_le l [0, 1, 2, 3, 4, 10, 11] hn fun x hx => keyOk_mem.mp (hk x hx)
/-- two rising lists of the same members are one -/
theorem rising_eq : ∀ {a b : List Int}, a.Pairwise (· < ·) → b.Pairwise (· < ·) → (∀ k, k ∈ a ↔ k ∈ b) → a = b
  | [], [], _, _, _ => rfl
  | [], y :: r, _, _, h => nomatch (h y).mpr (.head _)
  | x :: r, [], _, _, h => nomatch (h x).mp (.head _)
  | x :: r, y :: q, ha, hb, h => by
    have ha' := List.pairwise_cons.mp ha
    have hb' := List.pairwise_cons.mp hb
    have e : x = y := by
      have h1 : y ≤ x := by
        rcases List.mem_cons.mp ((h x).mp (.head _)) with e | e
        · exact Int.le_of_eq e.symm
        · exact Int.le_of_lt (hb'.1 x e)
      have h2 : x ≤ y := by
        rcases List.mem_cons.mp ((h y).mpr (.head _)) with e | e
        · exact Int.le_of_eq e.symm
        · exact Int.le_of_lt (ha'.1 y e)
      omega
    subst e
    rw [rising_eq ha'.2 hb'.2 fun k => ⟨fun hk => ?_, fun hk => ?_⟩]
    · rcases List.mem_cons.mp ((h k).mp (.tail _ hk)) with e | e
      · have := ha'.1 k hk; omega
      · exact e
    · rcases List.mem_cons.mp ((h k).mpr (.tail _ hk)) with e | e
      · have := hb'.1 k hk; omega
      · exact e
theorem rising_of {l b : List Int} (hs : l.Pairwise (· ≤ ·)) (hp : l.Perm b) (hn : b.Nodup) : l.Pairwise (· < ·) := by
  have hn' : l.Pairwise (· ≠ ·) := hp.nodup_iff.mpr hn
  exact (hs.and hn').imp fun ⟨a, b⟩ => by omega
section
variable {prog : Program} {w : World} {A : Around} {s : Shared} {E : Value → Shared → Prop} {g : Heap} {L : Addr} {m : Str → Option Value} {news : List (Addr × Obj)}
/-- a list of ints, sorted in place -/
theorem sort_call {D : Addr} {vs : List Value} {ns : List Int} {n : Nat} {Q : Value → Shared → Prop} (F : Fr g L s.heap m) (N : News g L s.heap ((D, PySem.W.listOf vs.toArray n) :: news)) (hD : ∀ q ∈ news, q.1 < D) (hi : IntsAre vs ns) (h64 : vs.length < 64)
    (h : ∀ h' us ns' e, Fr g L h' m → News g L h' ((D, PySem.W.listOf us.toArray e) :: news) → IntsAre us ns' → ns'.Perm ns → ns'.Pairwise (· ≤ ·) → Q .none { s with heap := h' }) :
    wpAny (model prog w) A (call (.builtin "list.sort") [.ref D]) Q E s := by
  have hN := N _ (.head _)
  refine wpAny_call_entry slot_list_sort ⟨_, hN.1, rfl⟩ entry_list_sort (list_sort_tree hN.1 hi h64 fun out ns' a1 a2 a3 => ⟨_, rfl, ?_⟩) (args_list_sort _)
  obtain ⟨e, he⟩ := sortedHeap_at (out := out) hN.1
  have old : ∀ b o, b ≠ D → s.heap.get? b = some o → (sortedHeap s.heap D vs out).get? b = some o := fun b o hb ho => (sortedHeap_old hb (Heap.lt_size ho)).trans ho
  have st : Stay [D] s.heap (sortedHeap s.heap D vs out) := fun b o hb ho => old b o (by simpa using hb) ho
  refine h _ out.toList ns' e (fr_stay F st fun a ha => by rw [List.mem_singleton.mp ha]; exact hN.2) ?_ a1 a2 a3
  intro p hp
  rcases List.mem_cons.mp hp with rfl | hp
  · exact ⟨by rw [Array.toArray_toList]; exact he, hN.2⟩
  · exact ⟨old _ _ (Nat.ne_of_lt (hD p hp)) (N p (.tail _ hp)).1, (N p (.tail _ hp)).2⟩
theorem ints_of {kvs : List (Int × Value)} : ∀ {vs : List Value}, vs.length = kvs.length → (∀ (j : Nat) (v : Value), vs[j]? = some v → ∃ k x, kvs[j]? = some (k, x) ∧ (intKind prog w).is k v = true) → IntsAre vs (kvs.map (·.1)) := by
  induction kvs with
  | nil => intro vs h _; rw [List.length_eq_zero_iff.mp h]; exact .nil
  | cons p r ih =>
    intro vs hl hv
    match vs, hl with
    | v :: us, hl =>
      obtain ⟨k, x, hk, his⟩ := hv 0 v rfl
      obtain ⟨t, rfl⟩ := Value.isInt_shape his
      have e : p = (k, x) := by simpa using hk
      subst e
      exact .cons k t (ih (by simpa using hl) fun j u hu => by simpa using hv (j + 1) u (by simpa using hu))
/-- sorted(d) of a dict of ints -/
theorem sorted_D {d : Addr} {o : Obj} {kvs : List (Int × Value)} {Q : Value → Shared → Prop} (hh : A.handled = none) (F : Fr g L s.heap m) (N : News g L s.heap news) (hm : (d, o) ∈ news) (hd : o.IsDictOf (intKind prog w) kvs) (lo : (d == sysModules) = false) (hl : kvs.length ≤ 60)
    (h : ∀ D h' tk us ns e, Fr g L h' m → News g L h' ((D, PySem.W.listOf us.toArray e) :: news) → (∀ q ∈ news, q.1 < D) → IntsAre us ns → ns.Pairwise (· < ·) → (∀ k, k ∈ ns ↔ k ∈ kvs.map (·.1)) → Q (.ref D) { s with heap := h', toks := tk }) :
    wpAny (model prog w) A (call (.builtin "sorted") [.ref d]) Q E s := by
  have hD : s.heap.DictOf (intKind prog w) d kvs := kda_dict N hm hd
  obtain ⟨ep, hat⟩ := hD.dictAt
  have hn : (kvs.map (·.1)).Nodup := by obtain ⟨_, _, _, _, _, _, q⟩ := hd; exact q
  refine kdu_sorted (kdl_dict (knd := intKind prog w) (kvs := kvs) (ep := ep) lo) hh F N hat (by rw [sizeLine_eq]; omega) fun D h' tk vs F' N' l1 hlen hv => ?_
  have hi := ints_of (prog := prog) (w := w) hlen hv
  refine sort_call F' N' l1 hi (by omega) fun h'' us ns' e F'' N'' a1 a2 a3 => ?_
  exact h D h'' tk us ns' e F'' N'' l1 a1 (rising_of a3 a2 hn) fun k => a2.mem_iff
/-- a loop over a list -/
theorem for_list {env : Env} {x : Str} {body : List Stmt} {Q : Flow → Shared → Prop} {b : Addr} {vals : List Value} (J : Nat → (Str → Option Value) → List (Addr × Obj) → Prop) {nx₀ : List (Addr × Obj)} (hh : A.handled = none) (F : Fr g env.locals s.heap m)
    (N : News g env.locals s.heap nx₀) (hl : s.heap.IsList b vals.toArray) (hJ : ∀ i m nx, J i m nx → ∀ p ∈ nx, p.1 ≠ b ∧ p.1 < s.heap.objs.size) (h0 : J 0 m nx₀)
    (turn : ∀ i v m₁ nx h tk own, vals[i]? = some v → (∀ p ∈ own, p.1 ∈ [s.heap.objs.size, b]) → J i m₁ nx → Fr g env.locals h (fun y => if y = x then some v else m₁ y) → News g env.locals h (nx ++ own) →
      wpAny (model prog w) A (execs body env) (MPost g env.locals (J (i + 1)) own { s with heap := h, toks := tk } Q) E { s with heap := h, toks := tk })
    (done : ∀ m₁ nx h tk, J vals.length m₁ nx → Fr g env.locals h m₁ → News g env.locals h nx → Q .next { s with heap := h, toks := tk }) :
    wpAny (model prog w) A (pyIter (.ref b)) (fun it s₂ => LoopAtV prog w A g env x body Q E it s₂) E s := by
  obtain ⟨ol, hol, hcl, nl, hdl⟩ := id hl
  have hb : b < s.heap.objs.size := Heap.lt_size hol
  have hbL : b ≠ env.locals := by
    rintro rfl
    obtain ⟨oL, es, ep, hL, hLd, _⟩ := F.ns
    rw [hol] at hL; cases hL
    rw [hdl] at hLd; cases hLd
  refine wpAny_pyIter_list hl ?_
  have W := Walks.list (prog := prog) (w := w) hh s.heap.objs.size b (Nat.ne_of_lt hb) vals.toArray
  have notfp : ∀ i m' nx, J i m' nx → ∀ p ∈ nx, p.1 ∉ [s.heap.objs.size, b] := fun i m' nx hj p hp q => by
    have := hJ i m' nx hj p hp
    rcases List.mem_cons.mp q with q | q
    · exact Nat.ne_of_lt this.2 q
    · exact this.1 (List.mem_singleton.mp q)
  refine for_at (s := { s with heap := _ }) J W ?_ ?_ ⟨⟨_, Heap.get?_push_size _ rfl, rfl, rfl⟩, hl.at fun o e => Heap.get?_push_of_some _ e⟩ (F.push _) (news := nx₀) (fun p hp => ⟨Heap.get?_push_of_some _ (N p hp).1, (N p hp).2⟩) notfp h0 ?_ ?_
  · intro q
    rcases List.mem_cons.mp q with q | q
    · exact Nat.ne_of_lt F.ns.lt q
    · exact hbL (List.mem_singleton.mp q).symm
  · intro c hc
    rw [List.mem_singleton.mp hc]; exact next_is_new F
  · intro i v m₁ nx h tk own hi hP hown hj F₁ N₁
    exact turn i v m₁ nx h tk own (by simpa using hP) hown hj F₁ N₁
  · intro m₁ nx h tk hj F₁ N₁
    simp only [List.size_toArray] at hj
    exact done m₁ nx h tk hj F₁ N₁
end
section
variable {w : World} {s : Shared} {mean : ExcName → Option Value} {mg mb : Str → Option Value} {Q E : Value → Shared → Prop} {dp un : Nat} {fr : List Env} {gd : Option (List Code)}
  {g : Heap} {L : Addr} {m : Str → Option Value} {news : List (Addr × Obj)}
theorem sub_K {b₀ : Heap} {v : Value} {t : T} (B : Base w mean mg mb b₀) (hbg : ∀ b o, b₀.get? b = some o → g.get? b = some o) (F : Fr g L s.heap m) (N : News g L s.heap news)
    (tr : TreeG (IsTup b₀) v t) (hdp : dp + 40 < recursionLimit) (hun : un + 250 < cLine) (hz : t.size ≤ 100)
    (h : ∀ b xs h' tk, Fr g L h' m → News g L h' news → h'.IsList b xs.toArray → (∀ p ∈ news, p.1 ≠ b) → Trees (IsTup b₀) xs t.pre → Q (.ref b) { s with heap := h', toks := tk }) :
    wpAny (model PySem.Challenge.rw_on0082_01.row.prog w) (Ard dp un fr gd) (call (.ref 28) [v]) Q E s :=
  sub_spec w s mean mg mb b₀ B (fun b o e => F.keep b o (hbg b o e)) dp un fr gd hdp hun v t tr hz Q E fun b xs n h' tk st hn hb hk =>
    h b xs h' tk (fr_stay F st fun _ ha => nomatch ha) (news_stay N st) ⟨_, hb, rfl, _, rfl⟩ (fun p hp e => by have := (N p hp).1; rw [e, hn] at this; cases this) hk
end
theorem Trees.get {P : Addr → Array Value → Prop} {vs : List Value} {ts : List T} (h : Trees P vs ts) : ∀ (i : Nat) (v : Value), vs[i]? = some v → ∃ t, ts[i]? = some t ∧ TreeG P v t := by
  induction h with
  | nil => intro i v e; cases e
  | cons t _ ih =>
    intro i v e
    match i with
    | 0 => cases e; exact ⟨_, rfl, t⟩
    | i + 1 => exact ih i v e
end Mine
end

section
open PySem PySem.W PyProof.Rows PySem.Calls
set_option Elab.async false
set_option maxRecDepth 100000
set_option maxHeartbeats 16000000
namespace Mine
theorem offMReads : True := by
  w_top off
  trivial
set_option pp.deepTerms false
set_option pp.deepTerms.threshold 8
theorem fill5 : ∀ (P : Params) (h : Heap), (Mine.hd.heap_39 P).In h → PySem.Challenge.rw_on0082_01.Holds → True := by
  k_fill
  intros; trivial
local macro_rules | `(tactic| k_all) => `(tactic| assumption)
local macro_rules | `(tactic| walk_at "call ref") => `(tactic| (k_here; k_dflt (refine' sub_K ?B ?g ?F ?N ?t ?d ?u ?z ?_; (case B => assumption); (case g => assumption); (case F => k_asm); (case N => k_asm); (case t => assumption); (case d => (dsimp only [Ard]; omega)); (case u => (dsimp only [Ard]; omega)); (case z => assumption)); intro b' x' h' tk' F' N' l' n' c'; (try k_sweep)))
local macro_rules | `(tactic| walk_at "exec For Name Call cons nil") => `(tactic| (k_here; (rename Fr _ _ _ _ => lF'); (with_unfolding_all refine' For_invVF lF' ?k1 ?k2 ?_; (case k1 => exact rfl); (case k2 => exact rfl); k_whole)))
local macro_rules | `(tactic| walk_at "pyIter ref") => `(tactic| ((with_reducible show wpAny _ _ (pyIter (Value.ref _)) (fun it s₂ => LoopAtV _ _ _ _ _ _ _ _ _ it s₂) _ _); k_here; refine hold ?_))
local macro_rules | `(tactic| walk_at "MPost") => `(tactic| dsimp only [MPost])
local macro_rules | `(tactic| walk_at "MEnd") => `(tactic| refine hold ?_)
local macro_rules | `(tactic| walk_at "subscriptTail") => `(tactic| (k_here; (with_reducible show wpAny _ _ (subscriptTail _ _ (Value.ref _) (Value.int _ _)) _ _ _); k_dflt (refine' tup_item ?F ?t ?a ?b ?j ?c ?_ ?d; (case F => k_asm); (case t => first | with_reducible assumption | exact IsTup.keeps (by assumption) (by assumption)); (case a => decide); (case b => decide); (case j => exact rfl); (case c => exact rfl); (case d => with_unfolding_all rfl))))
local macro_rules | `(tactic| walk_at "setItem ref int") => `(tactic| (k_here; k_dflt (refine' kda_set (knd := PySem.intKind _ _) ?F ?N ?U ?d (intKind_is _ _ _ _) ?z ?_; (case F => k_asm); (case N => k_asm); (case U => k_updF); (case d => k_asm); (case z => assumption)); intro h' o' F' N' hd'; (try dsimp only at N'); (try k_sweep)))
theorem none_of {h g : Heap} {a : Addr} (st : Stay [] h g) (e : g.get? a = none) : h.get? a = none := by
  cases q : h.get? a with
  | none => rfl
  | some o => have := st a o (fun q => nomatch q) q; rw [e] at this; cases this
theorem dict_le {prog : Program} {w : World} {o : Obj} {kvs : List (Int × Value)} {t : T} {i : Nat} (hky : ∀ k ∈ t.keys, KeyOk k) (hd : o.IsDictOf (intKind prog w) kvs) (hk : ∀ k, k ∈ kvs.map (·.1) ↔ ∃ n ∈ t.pre.take i, k ∈ n.key) : kvs.length ≤ 7 := by
  have hn : (kvs.map (·.1)).Nodup := by obtain ⟨_, _, _, _, _, _, q⟩ := hd; exact q
  have := keys_le hn fun k h => by
    obtain ⟨n, hn, hk⟩ := (hk k).mp h
    exact hky k ((pre_keys t k).mp ⟨n, List.mem_of_mem_take hn, hk⟩)
  simpa using this
local macro_rules | `(tactic| walk_at "call builtin:sorted") => `(tactic| (k_here; k_dflt (refine' sorted_D rfl ?F ?N ?m ?d ?o ?l ?_; (case F => k_asm); (case N => k_asm); (case m => k_mem); (case d => k_asm); (case o => k_asm); (case l => assumption)); intro D' h' tk' u' n' e' F' N' l1 i' p' q'; (try k_sweep)))
local macro_rules | `(tactic| walk_at "eval Name") => `(tactic| (k_here; k_dflt (refine' nameX_L ?F ?v ?_ ?a ?b; (case F => k_asm); (case a => rfl); (case b => rfl); (case v => assumption); k_whole)))
theorem reads_spec (w : World) (s : Shared) (mean : ExcName → Option Value) (mg mb : Str → Option Value) (b₀ : Heap) (B : Base w mean mg mb b₀) (hb : ∀ b o, b₀.get? b = some o → s.heap.get? b = some o)
    (dp un : Nat) (fr : List Env) (gd : Option (List Code)) (hdp : dp + 60 < recursionLimit) (hun : un + 300 < cLine) (v : Value) (t : T) (tr : TreeG (IsTup b₀) v t) (hz : t.size ≤ 100) (hky : ∀ k ∈ t.keys, KeyOk k) (Q E : Value → Shared → Prop)
    (hQ : ∀ (b : Addr) (us : List Value) (ns : List Int) (n : Nat) (h' : Heap) (tk : Nat), Stay [] s.heap h' → s.heap.get? b = none → h'.get? b = some (PySem.W.listOf us.toArray n) → IntsAre us ns → ns.Pairwise (· < ·) → (∀ k, k ∈ ns ↔ k ∈ t.keys) → Q (.ref b) { s with heap := h', toks := tk }) :
    wpAny (model PySem.Challenge.rw_on0082_01.row.prog w) (Ard dp un fr gd) (call (.ref 35) [v]) Q E s := by
  refine' enter [] b₀ B hb ?hc ?hn ?ho ?hcd ?hroom ?hbind ?hloc ?h ?c1 ?c2 ?c3 ?c4
  case hc => exact fun _ hp => nomatch hp
  case hn => exact fun _ hp => nomatch hp
  case ho => k_is
  case hcd => k_is
  case hroom => show dp < recursionLimit; omega
  case hbind => exact BindsTo.of_eq rfl
  case hloc => exact locs rfl
  case c1 => exact rfl
  case c2 => exact rfl
  case c3 => exact rfl
  case c4 => decide
  case h =>
  intro g L' h₁ hsub hst' F' N' X' T'
  have hbg : ∀ b o, b₀.get? b = some o → g.get? b = some o := fun b o e => hst' b o (fun q => nomatch q) (hb b o e)
  clear hb
  try dsimp only
  try k_fold
  k_steps
  rename_i kA h2 o lo hs0 fs0 hi0 fi0 l1 h1 rb xs h tk F N hl hnb hc
  have hkA : kA ≠ rb := hnb _ (.head _)
  have hkS : kA < h.objs.size := Heap.lt_size (N _ (.head _)).1
  clear hs0 fs0 fi0 l1 hnb
  refine for_list (s := { s with heap := h, toks := tk }) (fun i (m' : Str → Option Value) nx => ∃ o kvs, nx = [(kA, o)] ∧ o.IsDictOf (intKind PySem.Challenge.rw_on0082_01.row.prog w) kvs ∧ (∀ k, k ∈ kvs.map (·.1) ↔ ∃ n ∈ t.pre.take i, k ∈ n.key) ∧ (∀ z, z ≠ Str.ofString "node" → m' z = (if z = Str.ofString "keys" then some (Value.ref kA) else if z = Str.ofString "e" then some v else none)))
    rfl F N hl ?_ ⟨o, [], rfl, hi0, by simp, ?_⟩ ?_ ?_
  · rintro i m' nx ⟨o', kvs, rfl, _⟩ p hp
    rcases List.mem_singleton.mp hp with rfl
    exact ⟨hkA, hkS⟩
  · intro z hz
    by_cases h1 : z = Str.ofString "keys"
    · simp only [if_pos h1]
    · simp only [if_neg h1]
      by_cases h2 : z = Str.ofString "e"
      · subst h2; rfl
      · simp only [if_neg h2]
        simp [h2]
  · rintro i nv m₁ nx h5 tk5 own hv hown ⟨o', kvs, rfl, hd, hk, hm⟩ F5 N5
    have ho1 : ∀ p ∈ own, p.1 ≠ kA := fun p hp e => by
      have := hown p hp
      rcases List.mem_cons.mp this with q | q
      · exact Nat.ne_of_lt hkS (e ▸ q)
      · exact hkA (e ▸ List.mem_singleton.mp q)
    have em : (fun y => if y = Str.ofString "node" then some nv else m₁ y) = fun y => if y = Str.ofString "node" then some nv else if y = Str.ofString "keys" then some (Value.ref kA) else if y = Str.ofString "e" then some v else none := by
      funext z
      by_cases hz : z = Str.ofString "node"
      · simp [hz]
      · simp only [if_neg hz]; exact hm z hz
    rw [em] at F5
    obtain ⟨tn, ht, trn⟩ := hc.get i nv hv
    have hk7 : kvs.length ≤ 7 := dict_le hky hd hk
    have hkl : kvs.length ≤ sizeLine := by rw [sizeLine_eq]; omega
    have hstep : ∀ k, (∃ n ∈ t.pre.take (i + 1), k ∈ n.key) ↔ (∃ n ∈ t.pre.take i, k ∈ n.key) ∨ k ∈ tn.key := by
      intro k
      rw [List.take_add_one, ht]
      simp [or_and_right, exists_or]
    clear hm em hQ hc hv hown F N hl tr
    simp only [List.cons_append, List.nil_append] at N5
    cases trn
    all_goals (
      try dsimp only
      try k_fold
      k_steps)
    all_goals (
      rename News _ _ _ _ => N6
      rename Fr _ _ _ _ => F6
      rename Obj.IsDictOf _ _ _ => D6
      refine mend F6 N6 (fun q hq => by rcases List.mem_singleton.mp hq with rfl; exact .head _) (fun q hq => .tail _ hq) ⟨_, _, rfl, D6, fun k => ?_, fun z hz => if_neg hz⟩
      first
      | (rw [stored_mem, hk, hstep]; simp [T.key]; done)
      | (rw [hk, hstep]; simp [T.key]; done))
  · rintro m₁ nx h5 tk5 ⟨o', kvs, rfl, hd, hk, hm⟩ F5 N5
    have hk60 : kvs.length ≤ 60 := Nat.le_trans (dict_le hky hd hk) (by decide)
    have hkeys : m₁ (Str.ofString "keys") = some (Value.ref kA) := (hm _ (by decide)).trans rfl
    have hall : ∀ k, k ∈ kvs.map (·.1) ↔ k ∈ t.keys := fun k => by
      rw [hk, ← pre_keys, hc.length, List.take_length]
    clear F N hl hm
    k_steps
    rename News _ _ _ _ => N6
    rename Fr _ _ _ _ => F6
    rename IntsAre _ _ => I6
    have hD := N6 _ (.head _)
    refine hQ _ _ _ _ _ _ (stay_of hst' F6) ?_ hD.1 I6 (by assumption) fun k => (by rename ∀ k : Int, k ∈ _ ↔ k ∈ List.map _ kvs => q6; exact (q6 k).trans (hall k))
    exact none_of hst' hD.2.2
end Mine
end

section
open PySem PySem.W PyProof.Rows PySem.Calls
set_option Elab.async false
set_option maxRecDepth 100000
set_option maxHeartbeats 16000000
namespace Mine
theorem offMArgs : True := by
  w_top off
  trivial
set_option pp.deepTerms false
set_option pp.deepTerms.threshold 8
/-- the arguments that the law builds -/
inductive Arg where
  | text | none | mem
  | ex (t : T)
def Arg.keys : Arg → List Int
  | .ex t => t.keys
  | _ => []
def Arg.Ok : Arg → Prop
  | .ex t => t.size ≤ 100 ∧ ∀ k ∈ t.keys, KeyOk k
  | _ => True
inductive ArgG (P : Addr → Array Value → Prop) : Value → Arg → Prop where
  | text {a : Addr} {t0 t1 : Tok} : P a #[vs "s" t0, vs "1 %d" t1] → ArgG P (.ref a) .text
  | none {a : Addr} {t0 : Tok} : P a #[vs "none" t0] → ArgG P (.ref a) .none
  | mem {a : Addr} {t0 t1 : Tok} : P a #[vs "mem" t0, .int 12 t1] → ArgG P (.ref a) .mem
  | ex {a : Addr} {x : Value} {t : T} {t0 : Tok} : P a #[vs "e" t0, x, .bool false] → TreeG P x t → ArgG P (.ref a) (.ex t)
theorem ArgG.mono {P P' : Addr → Array Value → Prop} (k : ∀ a xs, P a xs → P' a xs) {v : Value} {a : Arg} (h : ArgG P v a) : ArgG P' v a := by
  cases h with
  | text p => exact .text (k _ _ p)
  | none p => exact .none (k _ _ p)
  | mem p => exact .mem (k _ _ p)
  | ex p t => exact .ex (k _ _ p) (t.mono k)
inductive Args9 (P : Addr → Array Value → Prop) : List Value → List Arg → Prop where
  | nil : Args9 P [] []
  | cons {v : Value} {a : Arg} {vs : List Value} {as : List Arg} : ArgG P v a → a.Ok → Args9 P vs as → Args9 P (v :: vs) (a :: as)
theorem Args9.mono {P P' : Addr → Array Value → Prop} (k : ∀ a xs, P a xs → P' a xs) {vs : List Value} {as : List Arg} (h : Args9 P vs as) : Args9 P' vs as := by
  induction h with
  | nil => exact .nil
  | cons x ok _ ih => exact .cons (x.mono k) ok ih
theorem Args9.length {P : Addr → Array Value → Prop} {vs : List Value} {as : List Arg} (h : Args9 P vs as) : vs.length = as.length := by
  induction h with
  | nil => rfl
  | cons _ _ _ ih => simp [ih]
theorem Args9.get {P : Addr → Array Value → Prop} {vs : List Value} {as : List Arg} (h : Args9 P vs as) : ∀ (i : Nat) (v : Value), vs[i]? = some v → ∃ a, as[i]? = some a ∧ ArgG P v a ∧ a.Ok := by
  induction h with
  | nil => intro i v e; cases e
  | cons x ok _ ih =>
    intro i v e
    match i with
    | 0 => cases e; exact ⟨_, rfl, x, ok⟩
    | i + 1 => exact ih i v e
theorem Args9.snoc {P : Addr → Array Value → Prop} {vs : List Value} {as : List Arg} {v : Value} {a : Arg} (h : Args9 P vs as) (x : ArgG P v a) (ok : a.Ok) : Args9 P (vs ++ [v]) (as ++ [a]) := by
  induction h with
  | nil => exact .cons x ok .nil
  | cons y o _ ih => exact .cons y o ih
theorem Args9.ok {P : Addr → Array Value → Prop} {vs : List Value} {as : List Arg} (h : Args9 P vs as) : ∀ a ∈ as, ∀ k ∈ a.keys, KeyOk k := by
  induction h with
  | nil => intro a ha; cases ha
  | cons x ok _ ih =>
    intro a ha k hk
    rcases List.mem_cons.mp ha with rfl | ha
    · cases a with
      | ex t => exact ok.2 k hk
      | _ => cases hk
    · exact ih a ha k hk
section
variable {w : World} {s : Shared} {mean : ExcName → Option Value} {mg mb : Str → Option Value} {Q E : Value → Shared → Prop} {dp un : Nat} {fr : List Env} {gd : Option (List Code)}
  {g : Heap} {L : Addr} {m : Str → Option Value} {news : List (Addr × Obj)}
theorem reads_K {b₀ : Heap} {v : Value} {t : T} (B : Base w mean mg mb b₀) (hbg : ∀ b o, b₀.get? b = some o → g.get? b = some o) (F : Fr g L s.heap m) (N : News g L s.heap news)
    (tr : TreeG (IsTup b₀) v t) (hdp : dp + 60 < recursionLimit) (hun : un + 300 < cLine) (ok : (Arg.ex t).Ok)
    (h : ∀ b us ns h' tk, Fr g L h' m → News g L h' news → h'.IsList b us.toArray → (∀ p ∈ news, p.1 ≠ b ∧ p.1 < h'.objs.size) → IntsAre us ns → ns.Pairwise (· < ·) → (∀ k, k ∈ ns ↔ k ∈ t.keys) → Q (.ref b) { s with heap := h', toks := tk }) :
    wpAny (model PySem.Challenge.rw_on0082_01.row.prog w) (Ard dp un fr gd) (call (.ref 35) [v]) Q E s :=
  reads_spec w s mean mg mb b₀ B (fun b o e => F.keep b o (hbg b o e)) dp un fr gd hdp hun v t tr ok.1 ok.2 Q E fun b us ns n h' tk st hn hb hi hp hk =>
    have N' := news_stay N st
    h b us ns h' tk (fr_stay F st fun _ ha => nomatch ha) N' ⟨_, hb, rfl, _, rfl⟩ (fun p hp => ⟨fun e => (by have := (N p hp).1; rw [e, hn] at this; cases this), Heap.lt_size (N' p hp).1⟩) hi hp hk
end
theorem fill6 : ∀ (P : Params) (h : Heap), (Mine.hd.heap_39 P).In h → PySem.Challenge.rw_on0082_01.Holds → True := by
  k_fill
  intros; trivial
local macro_rules | `(tactic| walk_at "mine pad") => `(tactic| fail)
local macro_rules | `(tactic| walk_at "mine pad") => `(tactic| fail)
local macro_rules | `(tactic| k_all) => `(tactic| assumption)
local macro_rules | `(tactic| walk_at "call ref") => `(tactic| (k_here; k_dflt (refine' reads_K ?B ?g ?F ?N ?t ?d ?u ?z ?_; (case B => assumption); (case g => assumption); (case F => k_asm); (case N => k_asm); (case t => assumption); (case d => (dsimp only [Ard]; omega)); (case u => (dsimp only [Ard]; omega)); (case z => assumption)); intro b' u' n' h' tk' F' N' l' n2' i' p' q'; (try k_sweep)))
local macro_rules | `(tactic| walk_at "exec For Name Call cons nil") => `(tactic| (k_here; (rename Fr _ _ _ _ => lF'); (with_unfolding_all refine' For_invVF lF' ?k1 ?k2 ?_; (case k1 => exact rfl); (case k2 => exact rfl); k_whole)))
local macro_rules | `(tactic| walk_at "exec For Name Name cons nil") => `(tactic| (k_here; (rename Fr _ _ _ _ => lF'); (with_unfolding_all refine' For_invVF lF' ?k1 ?k2 ?_; (case k1 => exact rfl); (case k2 => exact rfl); k_whole)))
local macro_rules | `(tactic| walk_at "pyIter ref") => `(tactic| ((with_reducible show wpAny _ _ (pyIter (Value.ref _)) (fun it s₂ => LoopAtV _ _ _ _ _ _ _ _ _ it s₂) _ _); k_here; refine hold ?_))
local macro_rules | `(tactic| walk_at "MPost") => `(tactic| dsimp only [MPost])
local macro_rules | `(tactic| walk_at "MEnd") => `(tactic| refine hold ?_)
local macro_rules | `(tactic| walk_at "subscriptTail") => `(tactic| (k_here; (with_reducible show wpAny _ _ (subscriptTail _ _ (Value.ref _) (Value.int _ _)) _ _ _); k_dflt (refine' tup_item ?F ?t ?a ?b ?j ?c ?_ ?d; (case F => k_asm); (case t => first | with_reducible assumption | exact IsTup.keeps (by assumption) (by assumption)); (case a => decide); (case b => decide); (case j => exact rfl); (case c => exact rfl); (case d => with_unfolding_all rfl))))
local macro_rules | `(tactic| walk_at "setItem ref int") => `(tactic| (k_here; k_dflt (refine' kda_set (knd := PySem.intKind _ _) ?F ?N ?U ?d (intKind_is _ _ _ _) ?z ?_; (case F => k_asm); (case N => k_asm); (case U => k_updF); (case d => k_asm); (case z => assumption)); intro h' o' F' N' hd'; (try dsimp only at N'); (try k_sweep)))
local macro_rules | `(tactic| walk_at "eval Name") => `(tactic| (k_here; k_dflt (refine' nameX_L ?F ?v ?_ ?a ?b; (case F => k_asm); (case a => rfl); (case b => rfl); (case v => assumption); k_whole)))
theorem ints_at {us : List Value} {ns : List Int} (h : IntsAre us ns) : ∀ (j : Nat) (v : Value), us[j]? = some v → ∃ n t, v = .int n t ∧ ns[j]? = some n := by
  induction h with
  | nil => intro j v e; cases e
  | cons n t _ ih =>
    intro j v e
    match j with
    | 0 => cases e; exact ⟨n, t, rfl, rfl⟩
    | j + 1 => exact ih j v e
theorem args_spec (w : World) (s : Shared) (mean : ExcName → Option Value) (mg mb : Str → Option Value) (b₀ : Heap) (B : Base w mean mg mb b₀) (hb : ∀ b o, b₀.get? b = some o → s.heap.get? b = some o)
    (dp un : Nat) (fr : List Env) (gd : Option (List Code)) (hdp : dp + 80 < recursionLimit) (hun : un + 350 < cLine) (aA : Addr) (vals : List Value) (as : List Arg) (hl : b₀.IsList aA vals.toArray) (ha : Args9 (IsTup b₀) vals as) (Q E : Value → Shared → Prop)
    (hQ : ∀ (d : Addr) (o : Obj) (kvs : List (Int × Value)) (h' : Heap) (tk : Nat), Stay [] s.heap h' → s.heap.get? d = none → h'.get? d = some o → o.IsDictOf (intKind PySem.Challenge.rw_on0082_01.row.prog w) kvs → (d == sysModules) = false →
      (∀ k, k ∈ kvs.map (·.1) ↔ ∃ a ∈ as, k ∈ a.keys) → Q (.ref d) { s with heap := h', toks := tk }) :
    wpAny (model PySem.Challenge.rw_on0082_01.row.prog w) (Ard dp un fr gd) (call (.ref 42) [.ref aA]) Q E s := by
  refine' enter [] b₀ B hb ?hc ?hn ?ho ?hcd ?hroom ?hbind ?hloc ?h ?c1 ?c2 ?c3 ?c4
  case hc => exact fun _ hp => nomatch hp
  case hn => exact fun _ hp => nomatch hp
  case ho => k_is
  case hcd => k_is
  case hroom => show dp < recursionLimit; omega
  case hbind => exact BindsTo.of_eq rfl
  case hloc => exact locs rfl
  case c1 => exact rfl
  case c2 => exact rfl
  case c3 => exact rfl
  case c4 => decide
  case h =>
  intro g L' h₁ hsub hst' F' N' X' T'
  have hbg : ∀ b o, b₀.get? b = some o → g.get? b = some o := fun b o e => hst' b o (fun q => nomatch q) (hb b o e)
  clear hb
  try dsimp only
  try k_fold
  k_steps
  rename_i kA h2 o lo hs0 fs0 hi0 fi0 l1 h F N
  have hlg : g.IsList aA vals.toArray := hl.at fun o e => hbg _ _ e
  have hkA : kA ≠ aA := by
    rintro rfl
    obtain ⟨o1, ho1, _⟩ := hlg
    have := (N _ (.head _)).2.2
    rw [ho1] at this; cases this
  have hkS : kA < h.objs.size := Heap.lt_size (N _ (.head _)).1
  clear hs0 fs0 fi0 l1
  refine for_list (fun i (m' : Str → Option Value) nx => ∃ o kvs, nx = [(kA, o)] ∧ o.IsDictOf (intKind PySem.Challenge.rw_on0082_01.row.prog w) kvs ∧ (∀ k, k ∈ kvs.map (·.1) ↔ ∃ a ∈ as.take i, k ∈ a.keys) ∧ (∀ z, z ≠ Str.ofString "arg" → z ≠ Str.ofString "key" → m' z = (if z = Str.ofString "keys" then some (Value.ref kA) else if z = Str.ofString "args" then some (Value.ref aA) else none)))
    rfl F N (hlg.at fun o e => F.keep _ _ e) ?_ ⟨o, [], rfl, hi0, by simp, ?_⟩ ?_ ?_
  · rintro i m' nx ⟨o', kvs, rfl, _⟩ p hp
    rcases List.mem_singleton.mp hp with rfl
    exact ⟨hkA, hkS⟩
  · intro z _ _
    by_cases h1 : z = Str.ofString "keys"
    · simp only [if_pos h1]
    · simp only [if_neg h1]
      by_cases h2 : z = Str.ofString "args"
      · subst h2; rfl
      · simp only [if_neg h2]
        simp [h2]
  · rintro i nv m₁ nx h5 tk5 own hv hown ⟨o', kvs, rfl, hd, hk, hm⟩ F5 N5
    have ho1 : ∀ p ∈ own, p.1 ≠ kA := fun p hp e => by
      have := hown p hp
      rcases List.mem_cons.mp this with q | q
      · exact Nat.ne_of_lt hkS (e ▸ q)
      · exact hkA (e ▸ List.mem_singleton.mp q)
    obtain ⟨a, hai, aG, aOk⟩ := ha.get i nv hv
    have hstep : ∀ k, (∃ b ∈ as.take (i + 1), k ∈ b.keys) ↔ (∃ b ∈ as.take i, k ∈ b.keys) ∨ k ∈ a.keys := by
      intro k
      rw [List.take_add_one, hai]
      simp [or_and_right, exists_or]
    have hm1 : (fun y => if y = Str.ofString "arg" then some nv else m₁ y) (Str.ofString "arg") = some nv := if_pos rfl
    have hm2 : (fun y => if y = Str.ofString "arg" then some nv else m₁ y) (Str.ofString "keys") = some (Value.ref kA) := (if_neg (by decide)).trans ((hm _ (by decide) (by decide)).trans rfl)
    have hm3 : ∀ z, z ≠ Str.ofString "arg" → z ≠ Str.ofString "key" → (fun y => if y = Str.ofString "arg" then some nv else m₁ y) z = (if z = Str.ofString "keys" then some (Value.ref kA) else if z = Str.ofString "args" then some (Value.ref aA) else none) := fun z h1 h2 => (if_neg h1).trans (hm z h1 h2)
    generalize (fun y => if y = Str.ofString "arg" then some nv else m₁ y) = m₂ at F5 hm1 hm2 hm3
    clear hm hQ hv hown F N hl m₁
    simp only [List.cons_append, List.nil_append] at N5
    cases aG
    all_goals (
      try dsimp only
      try k_fold
      k_steps)
    · exact mend F5 N5 (fun q hq => by rcases List.mem_singleton.mp hq with rfl; exact .head _) (fun q hq => .tail _ hq) ⟨_, _, rfl, hd, fun k => by rw [hk, hstep]; simp [Arg.keys], hm3⟩
    · exact mend F5 N5 (fun q hq => by rcases List.mem_singleton.mp hq with rfl; exact .head _) (fun q hq => .tail _ hq) ⟨_, _, rfl, hd, fun k => by rw [hk, hstep]; simp [Arg.keys], hm3⟩
    · exact mend F5 N5 (fun q hq => by rcases List.mem_singleton.mp hq with rfl; exact .head _) (fun q hq => .tail _ hq) ⟨_, _, rfl, hd, fun k => by rw [hk, hstep]; simp [Arg.keys], hm3⟩
    · rename_i xv tt t0 trx tupx rb us ns h6 tk6 F6 N6 hl6 hn6 I6 p6 q6
      refine for_list (fun j (m' : Str → Option Value) nx => ∃ o2 kvs2, nx = (kA, o2) :: own ∧ o2.IsDictOf (intKind PySem.Challenge.rw_on0082_01.row.prog w) kvs2 ∧ (∀ k, k ∈ kvs2.map (·.1) ↔ k ∈ kvs.map (·.1) ∨ k ∈ ns.take j) ∧ (∀ z, z ≠ Str.ofString "arg" → z ≠ Str.ofString "key" → m' z = (if z = Str.ofString "keys" then some (Value.ref kA) else if z = Str.ofString "args" then some (Value.ref aA) else none)))
        rfl F6 N6 hl6 ?_ ⟨o', kvs, rfl, hd, by simp, hm3⟩ ?_ ?_
      · rintro j m' nx ⟨o2, kvs2, rfl, _⟩ p hp
        rcases List.mem_cons.mp hp with rfl | hp
        · exact hn6 (kA, o') (.head _)
        · exact hn6 p (.tail _ hp)
      · rintro j kv m₃ nx h7 tk7 own2 hv7 hown7 ⟨o2, kvs2, rfl, hd7, hk7, hm7⟩ F7 N7
        obtain ⟨n, t7, rfl, hn7⟩ := ints_at I6 j kv hv7
        have hoff : ∀ p ∈ own ++ own2, p.1 ≠ kA := fun p hp e => by
          rcases List.mem_append.mp hp with hp | hp
          · exact ho1 p hp e
          · have := hown7 p hp
            rcases List.mem_cons.mp this with q | q
            · exact Nat.ne_of_lt (hn6 _ (.head _)).2 (e ▸ q)
            · exact (hn6 _ (.head _)).1 (e ▸ List.mem_singleton.mp q)
        have hk77 : kvs2.length ≤ 7 := by
          have hnd : (kvs2.map (·.1)).Nodup := by obtain ⟨_, _, _, _, _, _, q⟩ := hd7; exact q
          have := keys_le hnd fun k hk' => by
            rcases (hk7 k).mp hk' with h9 | h9
            · obtain ⟨b, hb, hkb⟩ := (hk k).mp h9
              exact ha.ok b (List.mem_of_mem_take hb) k hkb
            · exact aOk.2 k ((q6 k).mp (List.mem_of_mem_take h9))
          simpa using this
        have hkl : kvs2.length ≤ sizeLine := by rw [sizeLine_eq]; omega
        have hm4 : (fun y => if y = Str.ofString "key" then some (Value.int n t7) else m₃ y) (Str.ofString "key") = some (Value.int n t7) := if_pos rfl
        have hm5 : (fun y => if y = Str.ofString "key" then some (Value.int n t7) else m₃ y) (Str.ofString "keys") = some (Value.ref kA) := (if_neg (by decide)).trans ((hm7 _ (by decide) (by decide)).trans rfl)
        have hm6 : ∀ z, z ≠ Str.ofString "arg" → z ≠ Str.ofString "key" → (fun y => if y = Str.ofString "key" then some (Value.int n t7) else m₃ y) z = (if z = Str.ofString "keys" then some (Value.ref kA) else if z = Str.ofString "args" then some (Value.ref aA) else none) := fun z h1 h2 => (if_neg h2).trans (hm7 z h1 h2)
        generalize (fun y => if y = Str.ofString "key" then some (Value.int n t7) else m₃ y) = m₄ at F7 hm4 hm5 hm6
        clear hm7 F6 N6 hl6 hn6 hm1 hm2 hm3 hv7 hown7
        simp only [List.cons_append] at N7
        try k_fold
        k_steps
        rename News _ _ _ _ => N8
        rename Fr _ _ _ _ => F8
        rename Obj.IsDictOf _ _ _ => D8
        refine mend F8 N8 (fun q hq => ?_) (fun q hq => .tail _ (List.mem_append_right _ hq)) ⟨_, _, rfl, D8, fun k => ?_, hm6⟩
        · rcases List.mem_cons.mp hq with rfl | hq
          · exact .head _
          · exact .tail _ (List.mem_append_left _ hq)
        · rw [stored_mem, hk7, List.take_add_one, hn7]
          simp [or_assoc]
      · rintro m₃ nx h7 tk7 ⟨o2, kvs2, rfl, hd7, hk7, hm7⟩ F7 N7
        clear F6 N6 hl6 hn6
        k_steps
        refine mend F7 N7 (fun q hq => by rcases List.mem_singleton.mp hq with rfl; exact .head _) (fun q hq => .tail _ hq) ⟨_, _, rfl, hd7, fun k => ?_, hm7⟩
        rw [hk7, hk, hstep, I6.length, List.take_length, q6]; rfl
  · rintro m₁ nx h5 tk5 ⟨o', kvs, rfl, hd, hk, hm⟩ F5 N5
    have hkeys : m₁ (Str.ofString "keys") = some (Value.ref kA) := (hm _ (by decide) (by decide)).trans rfl
    have hall : ∀ k, k ∈ kvs.map (·.1) ↔ ∃ a ∈ as, k ∈ a.keys := fun k => by
      rw [hk, ha.length, List.take_length]
    clear F N hm
    k_steps
    dsimp only
    have hD := N5 _ (.head _)
    exact hQ _ _ _ _ _ (stay_of hst' F5) (none_of hst' hD.2.2) hD.1 hd lo hall
end Mine
end

section
open PySem PySem.W PyProof.Rows PySem.Calls
set_option Elab.async false
set_option maxRecDepth 100000
namespace Mine
theorem offMSetT : True := by
  w_top off
  trivial
abbrev Rise (xs : Array Nat) : Prop := xs.toList.Pairwise (· < ·)
theorem rise_lt {xs : Array Nat} (h : Rise xs) {i j : Nat} (hij : i < j) (hj : j < xs.size) : xs.getD i 0 < xs.getD j 0 := by
  have hi : i < xs.size := Nat.lt_trans hij hj
  have := List.pairwise_iff_getElem.mp h i j (by simpa using hi) (by simpa using hj) hij
  simpa [Array.getD, hi, hj] using this
theorem rise_le {xs : Array Nat} (h : Rise xs) {i j : Nat} (hij : i ≤ j) (hj : j < xs.size) : xs.getD i 0 ≤ xs.getD j 0 := by
  rcases Nat.lt_or_eq_of_le hij with q | rfl
  · exact Nat.le_of_lt (rise_lt h q hj)
  · exact Nat.le_refl _
theorem below_go {xs : Array Nat} (h : Rise xs) (j : Nat) : ∀ (fuel lo hi : Nat), hi - lo ≤ fuel → lo ≤ hi → hi ≤ xs.size → (∀ i, i < lo → xs.getD i 0 < j) → (∀ i, hi ≤ i → i < xs.size → j ≤ xs.getD i 0) →
    let r := SetTable.below.go xs j fuel lo hi
    r ≤ xs.size ∧ (∀ i, i < r → xs.getD i 0 < j) ∧ (∀ i, r ≤ i → i < xs.size → j ≤ xs.getD i 0)
  | 0, lo, hi, h1, h2, h3, a, b => by
    have e : lo = hi := by omega
    subst e
    exact ⟨h3, a, b⟩
  | fuel + 1, lo, hi, h1, h2, h3, a, b => by
    unfold SetTable.below.go
    by_cases hl : lo < hi
    · rw [if_pos hl]
      dsimp only
      have hm : (lo + hi) / 2 < hi := by omega
      have hm2 : lo ≤ (lo + hi) / 2 := by omega
      have hg : xs.getD ((lo + hi) / 2) j = xs.getD ((lo + hi) / 2) 0 := by
        have : (lo + hi) / 2 < xs.size := by omega
        simp [Array.getD, this]
      rw [hg]
      by_cases hc : xs.getD ((lo + hi) / 2) 0 < j
      · rw [if_pos hc]
        exact below_go h j fuel _ hi (by omega) (by omega) h3 (fun i hi' => Nat.lt_of_le_of_lt (rise_le h (by omega) (by omega)) hc) b
      · rw [if_neg hc]
        exact below_go h j fuel lo _ (by omega) hm2 (by omega) a (fun i hi' hs => Nat.le_trans (Nat.le_of_not_lt hc) (rise_le h hi' hs))
    · rw [if_neg hl]
      have e : lo = hi := by omega
      subst e
      exact ⟨h3, a, b⟩
theorem below_spec {xs : Array Nat} (h : Rise xs) (j : Nat) : SetTable.below xs j ≤ xs.size ∧ (∀ i, i < SetTable.below xs j → xs.getD i 0 < j) ∧ (∀ i, SetTable.below xs j ≤ i → i < xs.size → j ≤ xs.getD i 0) :=
  below_go h j xs.size 0 xs.size (by omega) (Nat.zero_le _) (Nat.le_refl _) (fun i hi => absurd hi (Nat.not_lt_zero _)) (fun i hi hs => absurd hs (by omega))
theorem below_at {xs : Array Nat} (h : Rise xs) {i : Nat} (hi : i < xs.size) : SetTable.below xs (xs.getD i 0) = i := by
  obtain ⟨h1, h2, h3⟩ := below_spec h (xs.getD i 0)
  rcases Nat.lt_trichotomy (SetTable.below xs (xs.getD i 0)) i with q | q | q
  · have := h3 _ (Nat.le_refl _) (Nat.lt_trans q hi)
    have := rise_lt h q hi
    omega
  · exact q
  · have := h2 i q; omega
theorem below_next {xs : Array Nat} (h : Rise xs) {i : Nat} (hi : i < xs.size) : SetTable.below xs (xs.getD i 0 + 1) = i + 1 := by
  obtain ⟨h1, h2, h3⟩ := below_spec h (xs.getD i 0 + 1)
  rcases Nat.lt_trichotomy (SetTable.below xs (xs.getD i 0 + 1)) (i + 1) with q | q | q
  · have := h3 i (by omega) hi; omega
  · exact q
  · have := h2 (i + 1) q
    have := rise_lt h (Nat.lt_add_one i) (show i + 1 < xs.size by omega)
    omega
theorem below_zero {xs : Array Nat} (h : Rise xs) : SetTable.below xs 0 = 0 := by
  obtain ⟨h1, h2, h3⟩ := below_spec h 0
  rcases Nat.eq_zero_or_pos (SetTable.below xs 0) with q | q
  · exact q
  · exact absurd (h2 0 q) (Nat.not_lt_zero _)
theorem slot_of {t : SetTable} (h : Rise t.place) (hd : t.dummies = #[]) (j : Nat) : (t.slot j = .empty ∧ j ∉ t.place.toList) ∨ (∃ i, t.slot j = .live i ∧ j ∈ t.place.toList) := by
  unfold SetTable.slot
  dsimp only
  by_cases hc : (t.place[SetTable.below t.place j]? == some j) = true
  · rw [if_pos hc]
    have := beq_iff_eq.mp hc
    exact .inr ⟨_, rfl, by rw [← Array.getElem?_toList] at this; exact List.mem_of_getElem? this⟩
  · rw [if_neg hc, hd]
    refine .inl ⟨by simp [SetTable.has], fun hm => ?_⟩
    obtain ⟨i, hi, e⟩ := List.mem_iff_getElem.mp hm
    have hi' : i < t.place.size := by simpa using hi
    have e' : t.place.getD i 0 = j := by simpa [Array.getD, hi'] using e
    have hb := below_at h hi'
    rw [e'] at hb
    rw [hb] at hc
    exact hc (by rw [beq_iff_eq, ← e', Array.getElem?_eq_getElem hi']; simp [Array.getD, hi'])
def advM (mask : Nat) (p : SetTable.Probe) : SetTable.Probe :=
  if p.more > 0 then { p with j := p.j + 1, more := p.more - 1 } else
  let q := SetTable.leap mask p.i p.perturb
  { p with j := q.1, more := SetTable.runEnd mask q.1 - q.1, i := q.1, perturb := q.2 }
theorem adv_eq (t : SetTable) (p : SetTable.Probe) : t.advance p = advM t.mask p := rfl
def iterM (mask : Nat) : Nat → SetTable.Probe → SetTable.Probe
  | 0, p => p
  | n + 1, p => iterM mask n (advM mask p)
theorem adv_dummy (mask : Nat) (p : SetTable.Probe) : (advM mask p).dummy = p.dummy := by unfold advM; split <;> rfl
theorem go_free {t : SetTable} (h : Rise t.place) (hd : t.dummies = #[]) (x : Int) : ∀ (fuel : Nat) (p : SetTable.Probe), p.dummy = none →
    (∃ j, SetTable.probe.go t (fun _ => x + 1) x fuel p = some (.empty j none) ∧ j ∉ t.place.toList) ∨ (∀ k, k < fuel → (iterM t.mask k p).j ∈ t.place.toList)
  | 0, p, _ => .inr fun k hk => absurd hk (Nat.not_lt_zero _)
  | fuel + 1, p, hp => by
    unfold SetTable.probe.go
    rcases slot_of h hd p.j with ⟨e, hn⟩ | ⟨i, e, hm⟩
    · rw [e]
      exact .inl ⟨p.j, by rw [hp], hn⟩
    · rw [e]
      dsimp only
      have hx : ¬ ((x + 1 == x) = true) := by simp; omega
      rw [if_neg hx, adv_eq]
      rcases go_free h hd x fuel (advM t.mask p) (by rw [adv_dummy]; exact hp) with q | q
      · exact .inl q
      · refine .inr fun k hk => ?_
        match k with
        | 0 => exact hm
        | k + 1 => exact q k (Nat.lt_of_succ_lt_succ hk)
def startM (mask : Nat) (h : Int) : SetTable.Probe :=
  let i := SetTable.bits h % (mask + 1)
  { j := i, more := SetTable.runEnd mask i - i, i, perturb := SetTable.bits h, dummy := none }
theorem start_eq (t : SetTable) (h : Int) : t.probeStart h = startM t.mask h := rfl
theorem spread7 : ∀ h ∈ [(0 : Int), 1, 2, 3, 4, 10, 11], ((List.range 8).map fun k => (iterM 7 k (startM 7 h)).j).Nodup := by decide +kernel
theorem spread31 : ∀ h ∈ [(0 : Int), 1, 2, 3, 4, 10, 11], ((List.range 10).map fun k => (iterM 31 k (startM 31 h)).j).Nodup := by decide +kernel
theorem free_of {t : SetTable} (h : Rise t.place) (hd : t.dummies = #[]) {x : Int} (hx : KeyOk x) (hm : (t.mask = 7 ∧ t.place.size ≤ 4) ∨ (t.mask = 31 ∧ t.place.size ≤ 7)) :
    ∃ j, t.freeSlot x = some (j, false) ∧ j ∉ t.place.toList := by
  unfold SetTable.freeSlot SetTable.probe
  rcases go_free h hd x (10 * SetTable.turns t.mask) (t.probeStart x) rfl with ⟨j, e, hn⟩ | q
  · exact ⟨j, by rw [e]; rfl, hn⟩
  · exfalso
    rw [start_eq] at q
    have hk := keyOk_mem.mp hx
    rcases hm with ⟨e, hs⟩ | ⟨e, hs⟩
    · rw [e] at q
      have := nodup_le _ t.place.toList (spread7 x hk) fun y hy => by
        obtain ⟨k, hk, rfl⟩ := List.mem_map.mp hy
        exact q k (by have := List.mem_range.mp hk; unfold SetTable.turns; omega)
      simp at this; omega
    · rw [e] at q
      have := nodup_le _ t.place.toList (spread31 x hk) fun y hy => by
        obtain ⟨k, hk, rfl⟩ := List.mem_map.mp hy
        exact q k (by have := List.mem_range.mp hk; unfold SetTable.turns; omega)
      simp at this; omega
theorem rise_insert {xs : Array Nat} (h : Rise xs) {j : Nat} (hj : j ∉ xs.toList) : Rise (SetTable.insertAt xs (SetTable.below xs j) j) := by
  obtain ⟨h1, h2, h3⟩ := below_spec h j
  unfold Rise
  rw [SetTable.toList_insertAt]
  have hA : ∀ a ∈ xs.toList.take (SetTable.below xs j), a < j := fun a ha => by
    obtain ⟨i, hi, e⟩ := List.mem_iff_getElem.mp ha
    rw [List.length_take] at hi
    rw [List.getElem_take] at e
    have hi' : i < xs.size := by have : i < xs.toList.length := by omega
                                 simpa using this
    have := h2 i (by omega)
    rw [← e]; simpa [Array.getD, hi'] using this
  have hB : ∀ b ∈ xs.toList.drop (SetTable.below xs j), j < b := fun b hb => by
    obtain ⟨i, hi, e⟩ := List.mem_iff_getElem.mp hb
    rw [List.length_drop] at hi
    rw [List.getElem_drop] at e
    have hi' : SetTable.below xs j + i < xs.size := by have : SetTable.below xs j + i < xs.toList.length := by omega
                                                       simpa using this
    have h4 := h3 (SetTable.below xs j + i) (by omega) hi'
    have e' : xs.getD (SetTable.below xs j + i) 0 = b := by rw [← e]; simp [Array.getD, hi']
    rw [e'] at h4
    have : b ≠ j := fun q => hj (q ▸ List.mem_of_mem_drop hb)
    omega
  have ht : (xs.toList.take (SetTable.below xs j)).Pairwise (· < ·) := List.Pairwise.sublist (List.take_sublist _ _) h
  have hdp : (xs.toList.drop (SetTable.below xs j)).Pairwise (· < ·) := List.Pairwise.sublist (List.drop_sublist _ _) h
  rw [List.pairwise_append]
  refine ⟨ht, List.pairwise_cons.mpr ⟨hB, hdp⟩, fun a ha b hb => ?_⟩
  rcases List.mem_cons.mp hb with rfl | hb
  · exact hA a ha
  · exact Nat.lt_trans (hA a ha) (hB b hb)
end Mine
end

section
open PySem PySem.W PyProof.Rows PySem.Calls
set_option Elab.async false
set_option maxRecDepth 100000
namespace Mine
theorem offMSetT2 : True := by
  w_top off
  trivial
abbrev hsOf (es : Array (Int × Value)) : List Int := es.toList.map (·.1)
/-- a table in order -/
structure TOk (t : SetTable) (n : Nat) : Prop where
  plain : t.plain = true
  led : t.led = true
  dum : t.dummies = #[]
  rise : Rise t.place
  size : t.place.size = n
theorem TOk.fits {t : SetTable} {n : Nat} (h : TOk t n) (hm : n ≤ t.mask) : t.fits n = true := by
  simp only [SetTable.fits, SetTable.fill, h.size, h.dum, Bool.and_eq_true, beq_iff_eq, decide_eq_true_eq]
  exact ⟨trivial, by simpa using hm⟩
theorem layNew_ok {t : SetTable} {es : Array (Int × Value)} {x : Int} {v : Value} (h : TOk t es.size) (hx : KeyOk x) (hm : (t.mask = 7 ∧ es.size ≤ 4) ∨ (t.mask = 31 ∧ es.size ≤ 7)) :
    TOk (layNew t es x v).2.1 (es.size + 1) ∧ (layNew t es x v).2.1.mask = t.mask ∧ (layNew t es x v).2.2.1 = false := by
  obtain ⟨j, e, hn⟩ := free_of h.rise h.dum hx (by rw [h.size]; exact hm)
  unfold layNew
  rw [e]
  dsimp only
  have hp : t.put j = ({ t with place := SetTable.insertAt t.place (SetTable.below t.place j) j }, SetTable.below t.place j) := by
    unfold SetTable.put
    simp only [h.dum, SetTable.has, Prod.mk.injEq, and_true]
    simp
  rw [hp]
  dsimp only
  have hsz : ∀ {α : Type} (xs : Array α) (p : Nat) (y : α), (SetTable.insertAt xs p y).size = xs.size + 1 := fun xs p y => by
    have := (SetTable.insertAt_perm xs p y).length_eq
    simpa using this
  have ok : TOk ({ t with place := SetTable.insertAt t.place (SetTable.below t.place j) j } : SetTable) (es.size + 1) :=
    ⟨h.plain, h.led, h.dum, rise_insert h.rise hn, by rw [← h.size]; exact hsz _ _ _⟩
  have hf : ({ t with place := SetTable.insertAt t.place (SetTable.below t.place j) j } : SetTable).fits (SetTable.insertAt es (SetTable.below t.place j) (x, v)).size = true := by
    rw [hsz]; exact ok.fits (by show es.size + 1 ≤ t.mask; omega)
  have ho : ({ t with place := SetTable.insertAt t.place (SetTable.below t.place j) j } : SetTable).orStandIn (SetTable.insertAt es (SetTable.below t.place j) (x, v)).size = { t with place := SetTable.insertAt t.place (SetTable.below t.place j) j } := by
    unfold SetTable.orStandIn; rw [if_pos hf]
  rw [ho]
  exact ⟨ok, rfl, rfl⟩
theorem full7 {t : SetTable} {n : Nat} (h : TOk t n) (hm : t.mask = 7) : t.tooFull = decide (5 ≤ n) := by
  unfold SetTable.tooFull SetTable.fill
  rw [h.size, h.dum, hm]
  simp only [Array.size_empty, Nat.add_zero]
  by_cases q : 5 ≤ n
  · simp [q]; omega
  · simp [q]; omega
theorem full31 {t : SetTable} {n : Nat} (h : TOk t n) (hm : t.mask = 31) (hn : n ≤ 8) : t.tooFull = false := by
  unfold SetTable.tooFull SetTable.fill
  rw [h.size, h.dum, hm]
  simp; omega
/-- one hash laid into a clean table of 32 slots -/
abbrev layStep (mask : Nat) (acc : Option (Array (Option Nat) × Nat)) (h : Int) : Option (Array (Option Nat) × Nat) := do
  let (owner, k) ← acc
  let j ← SetTable.layClean.free mask owner (SetTable.turns mask) (SetTable.bits h % (mask + 1)) (SetTable.bits h)
  pure (owner.setIfInBounds j (some k), k + 1)
theorem free_here {owner : Array (Option Nat)} {h : Int} (hk : KeyOk h) (ho : owner.getD h.toNat (some 0) = none) :
    SetTable.layClean.free 31 owner (SetTable.turns 31) (SetTable.bits h % 32) (SetTable.bits h) = some h.toNat := by
  have ht : SetTable.turns 31 = 45 + 1 := rfl
  rw [ht]
  unfold SetTable.layClean.free
  rcases hk with rfl | rfl | rfl | rfl | rfl | rfl | rfl
  all_goals (
    first
    | (rw [show List.range (SetTable.runEnd 31 (SetTable.bits 0 % 32) + 1 - SetTable.bits 0 % 32) = [0, 1, 2, 3, 4, 5, 6, 7, 8, 9] from by decide +kernel, show SetTable.bits 0 % 32 = 0 from by decide +kernel])
    | (rw [show List.range (SetTable.runEnd 31 (SetTable.bits 1 % 32) + 1 - SetTable.bits 1 % 32) = [0, 1, 2, 3, 4, 5, 6, 7, 8, 9] from by decide +kernel, show SetTable.bits 1 % 32 = 1 from by decide +kernel])
    | (rw [show List.range (SetTable.runEnd 31 (SetTable.bits 2 % 32) + 1 - SetTable.bits 2 % 32) = [0, 1, 2, 3, 4, 5, 6, 7, 8, 9] from by decide +kernel, show SetTable.bits 2 % 32 = 2 from by decide +kernel])
    | (rw [show List.range (SetTable.runEnd 31 (SetTable.bits 3 % 32) + 1 - SetTable.bits 3 % 32) = [0, 1, 2, 3, 4, 5, 6, 7, 8, 9] from by decide +kernel, show SetTable.bits 3 % 32 = 3 from by decide +kernel])
    | (rw [show List.range (SetTable.runEnd 31 (SetTable.bits 4 % 32) + 1 - SetTable.bits 4 % 32) = [0, 1, 2, 3, 4, 5, 6, 7, 8, 9] from by decide +kernel, show SetTable.bits 4 % 32 = 4 from by decide +kernel])
    | (rw [show List.range (SetTable.runEnd 31 (SetTable.bits 10 % 32) + 1 - SetTable.bits 10 % 32) = [0, 1, 2, 3, 4, 5, 6, 7, 8, 9] from by decide +kernel, show SetTable.bits 10 % 32 = 10 from by decide +kernel])
    | (rw [show List.range (SetTable.runEnd 31 (SetTable.bits 11 % 32) + 1 - SetTable.bits 11 % 32) = [0, 1, 2, 3, 4, 5, 6, 7, 8, 9] from by decide +kernel, show SetTable.bits 11 % 32 = 11 from by decide +kernel])
    have ho' := ho
    simp only [Int.toNat] at ho'
    rw [List.find?_cons_of_pos (by simpa using ho')]
    rfl)
theorem filterMap_set : ∀ (l : List (Option Nat)) (j k : Nat), l[j]? = some none → List.Perm ((l.set j (some k)).filterMap id) (k :: l.filterMap id)
  | [], _, _, h => by cases h
  | a :: r, 0, k, h => by
    have e : a = none := by simpa using h
    subst e
    simp
  | a :: r, j + 1, k, h => by
    have ih := filterMap_set r j k (by simpa using h)
    cases a with
    | none => simpa using ih
    | some b =>
      simp only [List.set_cons_succ, List.filterMap_cons, id]
      exact (ih.cons b).trans (List.Perm.swap k b _)
theorem fold_ok : ∀ (hs p : List Int) (owner : Array (Option Nat)), (p ++ hs).Nodup → (∀ h ∈ hs, KeyOk h) → owner.size = 32 → (owner.toList.filterMap id).Perm (List.range p.length) → (∀ j, j < 32 → owner.getD j (some 0) ≠ none → (j : Int) ∈ p) →
    ∃ owner', hs.foldl (layStep 31) (some (owner, p.length)) = some (owner', p.length + hs.length) ∧ owner'.size = 32 ∧ (owner'.toList.filterMap id).Perm (List.range (p.length + hs.length))
  | [], p, owner, _, _, hs, hp, _ => ⟨owner, rfl, hs, hp⟩
  | h :: r, p, owner, hn, hk, hs, hp, hi => by
    have hkh := hk h (.head _)
    have hlt : h.toNat < 32 := by rcases hkh with rfl | rfl | rfl | rfl | rfl | rfl | rfl <;> decide
    have hnn : ((h.toNat : Nat) : Int) = h := by rcases hkh with rfl | rfl | rfl | rfl | rfl | rfl | rfl <;> decide
    have hnp : h ∉ p := fun q => by
      have := (List.nodup_append.mp hn).2.2 h q h (.head _)
      exact this rfl
    have ho : owner.getD h.toNat (some 0) = none := by
      cases q : owner.getD h.toNat (some 0) with
      | none => rfl
      | some b =>
        have := hi h.toNat hlt (by rw [q]; exact fun e => nomatch e)
        rw [hnn] at this
        exact absurd this hnp
    have hstep : layStep 31 (some (owner, p.length)) h = some (owner.setIfInBounds h.toNat (some p.length), p.length + 1) := by
      show (do
        let j ← SetTable.layClean.free 31 owner (SetTable.turns 31) (SetTable.bits h % 32) (SetTable.bits h)
        pure (owner.setIfInBounds j (some p.length), p.length + 1)) = _
      rw [free_here hkh ho]; rfl
    rw [List.foldl_cons, hstep]
    have hlt' : h.toNat < owner.size := by rw [hs]; exact hlt
    have ho2 : owner.toList[h.toNat]? = some none := by
      rw [Array.getElem?_toList, Array.getElem?_eq_getElem hlt']
      simpa [Array.getD, hlt'] using ho
    have e1 : (p ++ [h]).length = p.length + 1 := by simp
    obtain ⟨owner', e, s', p'⟩ := fold_ok r (p ++ [h]) (owner.setIfInBounds h.toNat (some p.length)) (by simpa using hn) (fun x hx => hk x (.tail _ hx)) (by simpa using hs)
      (by
        rw [e1, List.range_succ]
        have q := filterMap_set owner.toList h.toNat p.length ho2
        rw [show (owner.setIfInBounds h.toNat (some p.length)).toList = owner.toList.set h.toNat (some p.length) by simp]
        exact (q.trans (hp.cons _)).trans (List.perm_append_singleton _ _).symm)
      (fun j hj hne => by
        by_cases q : j = h.toNat
        · subst q; rw [hnn]; simp
        · have : owner.getD j (some 0) ≠ none := by
            have hj' : j < owner.size := by rw [hs]; exact hj
            have hq : h.toNat ≠ j := fun e => q e.symm
            simpa [Array.getD, hj', Array.getElem_setIfInBounds, hq] using hne
          exact List.mem_append_left _ (hi j hj this))
    refine ⟨owner', ?_, s', ?_⟩
    · rw [e1] at e; rw [e]; simp; omega
    · rw [e1] at p'
      rw [show p.length + (h :: r).length = p.length + 1 + r.length by simp; omega]
      exact p'
theorem live_fst {f : Nat → Option Nat} : ∀ l : List Nat, (l.filterMap fun j => (f j).map (j, ·)).map (·.1) = l.filter fun j => (f j).isSome
  | [] => rfl
  | a :: r => by
    have ih := live_fst (f := f) r
    cases h : f a with
    | none => simp [h, ih]
    | some b => simp [h, ih]
theorem live_snd {f : Nat → Option Nat} : ∀ l : List Nat, (l.filterMap fun j => (f j).map (j, ·)).map (·.2) = (l.map f).filterMap id
  | [] => rfl
  | a :: r => by
    have ih := live_snd (f := f) r
    cases h : f a with
    | none => simp [h, ih]
    | some b => simp [h, ih]
theorem relay_ok {t : SetTable} {es : Array (Int × Value)} (h : TOk t es.size) (hn : (hsOf es).Nodup) (hk : ∀ x ∈ hsOf es, KeyOk x) (h5 : es.size = 5) :
    TOk (relayAll t es (SetTable.grown es.size)).2.1 es.size ∧ (relayAll t es (SetTable.grown es.size)).2.1.mask = 31 ∧ (relayAll t es (SetTable.grown es.size)).1.size = es.size := by
  obtain ⟨owner, e, hs, hp⟩ := fold_ok (hsOf es) [] (Array.replicate 32 none) (by simpa using hn) hk (by simp) (by simp) (by
    intro j hj hne
    exact absurd (by simp [Array.getD, hj]) hne)
  have hlen : (hsOf es).length = es.size := by simp
  have hc : SetTable.layClean 31 (es.map (·.1)) = some owner := by
    unfold SetTable.layClean
    rw [← Array.foldl_toList, Array.toList_map]
    have e' : (hsOf es).foldl (layStep 31) (some (Array.replicate (31 + 1) none, 0)) = some (owner, (hsOf es).length) := by simpa using e
    exact congrArg (Option.map (·.1)) e'
  have hz : SetTable.sizeAbove (SetTable.grown es.size) = 32 := by rw [h5]; decide +kernel
  have hsnd : ((List.range 32).map fun j => owner.getD j none) = owner.toList := by
    apply List.ext_getElem
    · simp [hs]
    · intro i h1 h2
      have : i < owner.size := by simpa using h2
      simp [Array.getD, this]
  unfold relayAll SetTable.relaid SetTable.laid
  rw [hz]
  simp only [show 32 - 1 = 31 from rfl, hc, Option.bind_eq_bind, Option.bind_some, Option.pure_def]
  generalize hlv : (List.range (31 + 1)).filterMap (fun j => (owner.getD j none).map (j, ·)) = live
  have l1 : live.map (·.1) = (List.range 32).filter fun j => (owner.getD j none).isSome := by rw [← hlv]; exact live_fst (f := fun j => owner.getD j none) _
  have l2 : live.map (·.2) = owner.toList.filterMap id := by rw [← hlv, live_snd (f := fun j => owner.getD j none)]; rw [hsnd]
  have hperm : (live.map (·.2)).Perm (List.range es.size) := by rw [l2]; simpa [hlen] using hp
  have hll : live.length = es.size := by have := hperm.length_eq; simpa using this
  have ok : TOk { mask := 31, place := (live.map (·.1)).toArray, dummies := #[], finger := t.finger, led := t.led, moves := t.movedTo 31, plain := t.plain } es.size :=
    ⟨h.plain, h.led, rfl, by
      show (live.map (·.1)).Pairwise (· < ·)
      rw [l1]; exact List.Pairwise.sublist List.filter_sublist List.pairwise_lt_range, by simpa using hll⟩
  have hcov : coversAll (live.map (·.2)).toArray es.size = true := by
    unfold coversAll
    exact List.isPerm_iff.mpr hperm
  have hes : ((live.map (·.2)).toArray.filterMap (es[·]?)).size = es.size := by
    have q := (hperm.filterMap (fun i => es[i]?)).length_eq
    rw [filterMap_getElem?_range] at q
    rw [← Array.length_toList, Array.toList_filterMap]
    simpa using q
  have hf : ({ mask := 31, place := (live.map (·.1)).toArray, dummies := #[], finger := t.finger, led := t.led, moves := t.movedTo 31, plain := t.plain } : SetTable).fits ((live.map (·.2)).toArray.filterMap (es[·]?)).size = true := by
    rw [hes]; exact ok.fits (by show es.size ≤ 31; omega)
  simp only [hcov, hf, Bool.and_self, if_true]
  exact ⟨ok, trivial, hes⟩
end Mine
end

section
open PySem PySem.W PyProof.Rows PySem.Calls
set_option Elab.async false
set_option maxRecDepth 100000
namespace Mine
theorem offMSetO : True := by
  w_top off
  trivial
abbrev byText (w : World) : Bool := w.params.followText "set-order"
/-- a set of the law's keys, its table in order -/
structure SEl (w : World) (es : Array (Int × Value)) (t : SetTable) (S : Int → Prop) : Prop where
  el : ∀ e ∈ es.toList, ∃ k tok, KeyOk k ∧ e = (k, Value.int k tok)
  nd : (hsOf es).Nodup
  mem : ∀ k, k ∈ hsOf es ↔ S k
  fits : t.fits es.size = true
  tab : byText w = false → TOk t es.size ∧ ((t.mask = 7 ∧ es.size ≤ 4) ∨ t.mask = 31)
theorem hash_key {k : Int} (h : KeyOk k) : hashInt k = k := by
  rcases h with rfl | rfl | rfl | rfl | rfl | rfl | rfl <;> decide +kernel
theorem SEl.keys {w : World} {es : Array (Int × Value)} {t : SetTable} {S : Int → Prop} (h : SEl w es t S) : ∀ x ∈ hsOf es, KeyOk x := fun x hx => by
  obtain ⟨e, he, rfl⟩ := List.mem_map.mp hx
  obtain ⟨k, tok, hk, rfl⟩ := h.el e he
  exact hk
theorem SEl.le {w : World} {es : Array (Int × Value)} {t : SetTable} {S : Int → Prop} (h : SEl w es t S) : es.size ≤ 7 := by
  have := keys_le h.nd h.keys
  simpa using this
theorem SEl.elems {prog : Program} {w : World} {es : Array (Int × Value)} {t : SetTable} {S : Int → Prop} (h : SEl w es t S) : ElemsOf (intKind prog w) es.toList := fun e he => by
  obtain ⟨k, tok, hk, rfl⟩ := h.el e he
  exact ⟨⟨k, intKind_is _ _ _ _, (hash_key hk).symm⟩, rfl⟩
/-- SObj: the object -/
def SObj (w : World) (o : Obj) (S : Int → Prop) : Prop := ∃ es ep t, o.ExactSet ∧ o.data = .set es ep t ∧ SEl w es t S
theorem SEl.perm {w : World} {es es' : Array (Int × Value)} {t t' : SetTable} {S S' : Int → Prop} {k : Int} {tok : Tok} (h : SEl w es t S) (hk : KeyOk k) (hn : ¬ S k) (p : List.Perm es'.toList (es.toList ++ [(k, Value.int k tok)])) (hS : ∀ x, S' x ↔ S x ∨ x = k)
    (hf : t'.fits es'.size = true) (ht : byText w = false → TOk t' es'.size ∧ ((t'.mask = 7 ∧ es'.size ≤ 4) ∨ t'.mask = 31)) : SEl w es' t' S' where
  el := fun e he => by
    rcases List.mem_append.mp (p.mem_iff.mp he) with q | q
    · exact h.el e q
    · exact ⟨k, tok, hk, List.mem_singleton.mp q⟩
  nd := by
    have q : (hsOf es').Perm (hsOf es ++ [k]) := by simpa using p.map (·.1)
    rw [q.nodup_iff, List.nodup_append]
    refine ⟨h.nd, by simp, fun a ha b hb e => ?_⟩
    rw [List.mem_singleton.mp hb] at e
    exact hn ((h.mem k).mp (e ▸ ha))
  mem := fun x => by
    have q : (hsOf es').Perm (hsOf es ++ [k]) := by simpa using p.map (·.1)
    rw [q.mem_iff, List.mem_append, h.mem, hS]; simp
  fits := hf
  tab := ht
section
variable {prog : Program} {w : World} {A : Around} {E : Value → Shared → Prop} {s : Shared}
theorem add_S {a : Addr} {o : Obj} {S S' : Int → Prop} {k : Int} {tok : Tok} {Q : Bool → Shared → Prop} (ho : s.heap.get? a = some o) (hO : SObj w o S) (hk : KeyOk k) (hS : ∀ x, S' x ↔ S x ∨ x = k)
    (h : ∀ h' o' b, Heap.SameBut a s.heap h' → h'.get? a = some o' → SObj w o' S' → Q b { s with heap := h' }) :
    wpAny (model prog w) A (setAddHashed a (.int k tok) ((intKind prog w).hash k)) Q E s := by
  obtain ⟨es, ep, t, hex, hd, hE⟩ := hO
  have h7 := hE.le
  unfold setAddHashed setAddHashedIn
  refine wpAny_holding (wpAny_bind (wpAny_setState_of ho hd hE.fits ?_))
  dsimp only
  rw [byScan_of rfl (by unfold scanBound; omega) (hE.elems (prog := prog))]
  simp only [↓reduceIte]
  unfold setAddByScan
  refine wpAny_bind ?_
  refine wpAny_bind (wpAny_rule ?_)
  refine wpAny_bind (wpAny_setScan_of (knd := intKind prog w) (intKind_is _ _ _ _) ho hd hE.fits hE.elems ?_)
  have hidx : ∀ e ∈ es.toList, (intKind prog w).is k e.2 = decide (e.1 = k) := fun e he => by
    obtain ⟨k', tok', _, rfl⟩ := hE.el e he
    simp only [intKind, Value.isInt]
    by_cases q : k' = k
    · subst q; simp
    · simp [q]
  cases hr : List.findIdx? (fun e => (intKind prog w).is k e.2) es.toList with
  | some j =>
    dsimp only
    obtain ⟨hj, hpj, _⟩ := List.findIdx?_eq_some_iff_getElem.mp hr
    have hm := List.getElem_mem hj
    rw [hidx _ hm] at hpj
    have hSk : S k := (hE.mem k).mp (List.mem_map.mpr ⟨_, hm, of_decide_eq_true hpj⟩)
    refine wpAny_pure (wpAny_pure ?_)
    have e : s = { s with heap := s.heap } := by cases s; rfl
    rw [e]
    refine h s.heap o _ (Heap.SameBut.refl a s.heap) ho ⟨es, ep, t, hex, hd, hE.el, hE.nd, fun x => ?_, hE.fits, hE.tab⟩
    rw [hE.mem, hS]
    exact ⟨.inl, fun q => q.elim id fun q => q ▸ hSk⟩
  | none =>
    dsimp only
    have hSk : ¬ S k := fun q => by
      obtain ⟨e, he, q⟩ := List.mem_map.mp ((hE.mem k).mpr q)
      have := List.findIdx?_eq_none_iff.mp hr e he
      rw [hidx e he] at this
      exact of_decide_eq_false this q
    have hhash : (intKind prog w).hash k = k := hash_key hk
    rw [hhash]
    have hperm := layNew_perm t es k (.int k tok)
    have hfits := layNew_fits t es k (.int k tok)
    have hok : byText w = false → TOk (layNew t es k (.int k tok)).2.1 (es.size + 1) ∧ (layNew t es k (.int k tok)).2.1.mask = t.mask ∧ (layNew t es k (.int k tok)).2.2.1 = false := fun hb =>
      layNew_ok (hE.tab hb).1 hk ((hE.tab hb).2.imp id fun q => ⟨q, h7⟩)
    generalize hL : layNew t es k (.int k tok) = Ly at hperm hfits hok ⊢
    obtain ⟨es1, t1, wasDummy, gave⟩ := Ly
    dsimp only at hperm hfits hok ⊢
    rw [Array.toList_push] at hperm
    have hsz1 : es1.size = es.size + 1 := by rw [← Array.length_toList, hperm.length_eq, List.length_append, Array.length_toList]; rfl
    have hgw : ∀ (b : Bool) {s₁ : Shared} {Q' : Unit → Shared → Prop}, Q' () s₁ → wpAny (model prog w) A (match b with | true => rule "set.scan.the-table-gave-way" | false => pure ()) Q' E s₁ :=
      fun b s₁ Q' hq => by cases b <;> first | exact wpAny_pure hq | exact wpAny_rule hq
    refine wpAny_bind (hgw _ ?_)
    have hbig : es1.size ≤ sizeLine := by rw [sizeLine_eq]; omega
    have hmain : wpAny (model prog w) A (do
        storeSet a es1 t1
        if (!wasDummy && t1.tooFull) = true then do
            (match (relayAll t1 es1 (SetTable.grown es1.size)).2.2 with | true => rule "set.scan.the-table-gave-way" | false => pure ())
            storeSet a (relayAll t1 es1 (SetTable.grown es1.size)).1 (relayAll t1 es1 (SetTable.grown es1.size)).2.1
            pure (some true)
          else pure (some true)) (fun r s' => r = some true ∧ Q true s') E s := by
      refine wpAny_bind (wpAny_storeSet_of ho hd ?_ hbig)
      have hg1 : (s.heap.update a (Obj.putSet es1 t1)).get? a = some { o with data := .set es1 (ep + 1) t1 } := by
        have := Heap.get?_update_self (Obj.putSet es1 t1) ho (by rw [putSet_of es1 t1 hd]; rfl)
        rw [putSet_of es1 t1 hd] at this; exact this
      have hsb1 := Heap.SameBut.update s.heap a (Obj.putSet es1 t1)
      split
      · rename_i hc
        have hp2 := relayAll_perm t1 es1 (SetTable.grown es1.size)
        have hf2 := relayAll_fits t1 es1 (SetTable.grown es1.size)
        have hok2 : byText w = false → TOk (relayAll t1 es1 (SetTable.grown es1.size)).2.1 es1.size ∧ (relayAll t1 es1 (SetTable.grown es1.size)).2.1.mask = 31 := fun hb => by
          obtain ⟨k1, k2, k3⟩ := hok hb
          rw [k3] at hc
          simp only [Bool.not_false, Bool.true_and] at hc
          rcases (hE.tab hb).2 with ⟨q1, q2⟩ | q1
          · rw [full7 k1 (k2.trans q1)] at hc
            have h5 : es1.size = 5 := by have := of_decide_eq_true hc; omega
            rw [← hsz1] at k1
            have q : (hsOf es1).Perm (hsOf es ++ [k]) := by simpa using hperm.map (·.1)
            have hnd : (hsOf es1).Nodup := by
              rw [q.nodup_iff, List.nodup_append]
              refine ⟨hE.nd, by simp, fun a ha b hb e => ?_⟩
              rw [List.mem_singleton.mp hb] at e
              exact hSk ((hE.mem k).mp (e ▸ ha))
            have hks : ∀ x ∈ hsOf es1, KeyOk x := fun x hx => by
              rcases List.mem_append.mp (q.mem_iff.mp hx) with q | q
              · exact hE.keys x q
              · rw [List.mem_singleton.mp q]; exact hk
            have := relay_ok k1 hnd hks h5
            exact ⟨this.1, this.2.1⟩
          · rw [full31 k1 (k2.trans q1) (by omega)] at hc
            cases hc
        generalize relayAll t1 es1 (SetTable.grown es1.size) = Rl at hp2 hf2 hok2 ⊢
        obtain ⟨es2, t2, gave2⟩ := Rl
        dsimp only at hp2 hf2 hok2 ⊢
        have hsz2 : es2.size = es1.size := by rw [← Array.length_toList, hp2.length_eq, Array.length_toList]
        refine wpAny_bind (hgw _ ?_)
        refine wpAny_bind (wpAny_storeSet_of hg1 rfl ?_ (by rw [hsz2]; exact hbig))
        have hg2 : ((s.heap.update a (Obj.putSet es1 t1)).update a (Obj.putSet es2 t2)).get? a = some { o with data := .set es2 (ep + 1 + 1) t2 } := by
          have := Heap.get?_update_self (Obj.putSet es2 t2) hg1 (by rw [putSet_of es2 t2 rfl]; rfl)
          rw [putSet_of es2 t2 rfl] at this; exact this
        refine wpAny_pure ⟨rfl, h _ _ true (hsb1.trans (Heap.SameBut.update _ a _)) hg2 ⟨es2, ep + 1 + 1, t2, hex, rfl, hE.perm hk hSk (hp2.trans hperm) hS hf2 fun hb => ?_⟩⟩
        rw [hsz2]; exact ⟨(hok2 hb).1, .inr (hok2 hb).2⟩
      · rename_i hc
        refine wpAny_pure ⟨rfl, h _ _ true hsb1 hg1 ⟨es1, ep + 1, t1, hex, rfl, hE.perm hk hSk hperm hS hfits fun hb => ?_⟩⟩
        obtain ⟨k1, k2, k3⟩ := hok hb
        rw [k3] at hc
        simp only [Bool.not_false, Bool.true_and] at hc
        rw [hsz1]
        refine ⟨k1, ?_⟩
        rcases (hE.tab hb).2 with ⟨q1, q2⟩ | q1
        · rw [full7 k1 (k2.trans q1)] at hc
          refine .inl ⟨k2.trans q1, ?_⟩
          have : ¬ 5 ≤ es.size + 1 := fun q => hc (decide_eq_true q)
          omega
        · exact .inr (k2.trans q1)
    split
    · refine wpAny_bind ?_
      rw [hashByValue_scannable 8 rfl]
      refine wpAny_pure ?_
      refine wpAny_mono hmain (fun r s' q => ?_) fun _ _ x => x
      obtain ⟨rfl, q⟩ := q
      exact wpAny_pure q
    · refine wpAny_bind (wpAny_pure ?_)
      refine wpAny_mono hmain (fun r s' q => ?_) fun _ _ x => x
      obtain ⟨rfl, q⟩ := q
      exact wpAny_pure q
end
end Mine
end

section
open PySem PySem.W PyProof.Rows PySem.Calls
set_option Elab.async false
set_option maxRecDepth 100000
set_option maxHeartbeats 3200000
namespace Mine
theorem offMSetC : True := by
  w_top off
  trivial
section
variable {prog : Program} {w : World} {A : Around} {E : Value → Shared → Prop} {s : Shared}
/-- the filling loop of a set -/
theorem loop_S {I S l : Addr} {items : Array Value} {ns : List Int} (hh : A.handled = none) (hne : l ≠ I) (hSI : S ≠ I) (hSl : S ≠ l) (hi : IntsAre items.toList ns) (hk : ∀ k ∈ ns, KeyOk k) {R : Result → Shared → Prop} :
    ∀ (k i : Nat) (s : Shared) (o : Obj), items.size - i = k → i ≤ items.size → s.heap.IsListIter I l i → s.heap.IsList l items → s.heap.get? S = some o → SObj w o (fun x => x ∈ ns.take i) →
      (∀ h' tk o', h'.get? S = some o' → SObj w o' (fun x => x ∈ ns) → Stay [S, I] s.heap h' → R (.ok (.ret .none)) { s with heap := h', toks := tk }) →
      codeAny (model prog w) A (.builtin "set.update.loop" ⟨[.ref S, .ref I], []⟩) R s := by
  have hlen : items.size = ns.length := by have := hi.length; simpa using this
  intro k
  induction k with
  | zero =>
    intro i s o hk' hi' hit hl ho hO hR
    have e : i = items.size := by omega
    subst e
    refine codeAny_builtin F.entry_set_update_loop ?_
    rw [Around.under_plainId F.plain_set_update_loop _]
    show wpAny _ A.in1 (pyNext (.ref I) >>= _) _ _ s
    refine wpAny_bind (wpAny_pyNext_list_end hh hit hl (by simp) fun h' he => ?_)
    show wpAny _ A.in1 (ret Value.none) _ _ _
    refine wpAny_pure (hR h' s.toks o (he S o hSI ho) ?_ fun b ob hb e => he b ob (fun q => hb (by rw [q]; exact .tail _ (.head _))) e)
    rw [hlen, List.take_length] at hO; exact hO
  | succ k ih =>
    intro i s o hk' hi' hit hl ho hO hR
    have hlt : i < items.size := by omega
    refine codeAny_builtin F.entry_set_update_loop ?_
    rw [Around.under_plainId F.plain_set_update_loop _]
    show wpAny _ A.in1 (pyNext (.ref I) >>= _) _ _ s
    have hx : items[i]? = some items[i] := Array.getElem?_eq_getElem hlt
    refine wpAny_bind (wpAny_pyNext_list_item hit hl hx fun h' hit' hs' => ?_)
    have hx' : items.toList[i]? = some items[i] := by rw [Array.getElem?_toList]; exact hx
    have hn : ns[i]? = some (ns[i]'(by omega)) := List.getElem?_eq_getElem (by omega)
    obtain ⟨t, ht⟩ := hi.get i _ hn
    rw [hx'] at ht
    have ev : items[i] = Value.int (ns[i]'(by omega)) t := Option.some.inj ht
    rw [ev]
    generalize hkey : ns[i]'(by omega) = key at hn
    have hok : KeyOk key := hk key (List.mem_of_getElem? hn)
    show wpAny _ A.in1 (holding [Value.int key t] (setAdd S (.int key t)) >>= _) _ _ _
    refine wpAny_bind (wpAny_holding ?_)
    unfold setAdd
    refine wpAny_holding ?_
    refine wpAny_bind ((intKind prog w).pyHash (k := key) (intKind_is _ _ _ _) ?_)
    have ho' : h'.get? S = some o := (hs'.2 S hSI).trans ho
    have hl' : h'.IsList l items := hl.at fun ob e => (hs'.2 l hne).trans e
    refine add_S (s := { s with heap := h', toks := s.toks + 1 }) (S' := fun x => x ∈ ns.take (i + 1)) ho' hO hok (fun x => ?_) fun h2 o2 b hs2 ho2 hO2 => ?_
    · rw [List.take_add_one, hn]; simp
    · refine wpAny_pure ⟨plainId_quiet F.plain_set_update_loop _, ?_⟩
      refine ih (i + 1) { s with heap := h2, toks := s.toks + 1 } o2 (by omega) hlt (hit'.at fun ob e => (hs2.2 I (Ne.symm hSI)).trans e) (hl'.at fun ob e => (hs2.2 l (Ne.symm hSl)).trans e) ho2 hO2 fun h3 tk3 o3 ho3 hO3 st3 => ?_
      refine hR h3 tk3 o3 ho3 hO3 fun c oc hc e => st3 c oc hc ?_
      have c1 : c ≠ S := fun q => hc (by rw [q]; exact .head _)
      have c2 : c ≠ I := fun q => hc (by rw [q]; exact .tail _ (.head _))
      exact (hs2.2 c c1).trans ((hs'.2 c c2).trans e)
theorem code_new_S (a : Value) {Q₁ : Value → Shared → Prop}
    (h : Q₁ (.ref s.heap.objs.size) { s with heap := s.heap.push { cls := .type "set", dict := none, data := .set #[] 0 (.fresh 0 0 (!byText w)) } }) :
    codeAny (model prog w) A (.call (.builtin "set.__new__") ⟨[.type "set", a], []⟩) (wants Q₁ E) s := by
  refine codeAny_of_tree ?_
  show wpAny _ A.in1 (do checkBuiltinCall "set.__new__" ⟨[.type "set", a], []⟩; again (.builtin "set.__new__" ⟨[.type "set", a], []⟩)) _ _ s
  refine wpAny_bind (wpAny_of_eq (F.newCall_set_1 a) (wpAny_pure ⟨plainId_quiet F.plain_set_new _, codeAny_builtin F.entry_set_new ?_⟩))
  rw [Around.under_plainId F.plain_set_new _]
  unfold Builtin.«set.__new__» Builtin.Frozenset.newClass
  have hsub := sub_set_self
  obtain ⟨hp, g, d, tk, os⟩ := s
  dsimp only
  wp_walk
  refine wpAny_askSetting (wpAny_pure ?_)
  dsimp only
  simp only [newObj]
  refine wpAny_bind (wpAny_alloc (wpAny_pure ?_))
  exact wpAny_pure h
theorem new_SObj : SObj w { cls := .type "set", dict := none, data := .set #[] 0 (.fresh 0 0 (!byText w)) } (fun x => x ∈ ([] : List Int)) :=
  ⟨#[], 0, .fresh 0 0 (!byText w), ⟨rfl, rfl, rfl⟩, rfl, ⟨(fun e he => nomatch he), List.Pairwise.nil, (fun k => Iff.rfl), rfl, fun hb => ⟨⟨rfl, (by show (!byText w) = true; rw [hb]; rfl), rfl, List.Pairwise.nil, rfl⟩, .inl ⟨rfl, Nat.zero_le _⟩⟩⟩⟩
theorem set_new {l : Addr} {items : Array Value} {ns : List Int} {Q : Value → Shared → Prop}
    (hh : A.handled = none) (hl : s.heap.IsList l items) (hi : IntsAre items.toList ns) (hk : ∀ k ∈ ns, KeyOk k)
    (h : ∀ (h' : Heap) (tk : Nat) (o : Obj), h'.get? s.heap.objs.size = some o → SObj w o (fun x => x ∈ ns) → Stay [] s.heap h' → Q (.ref s.heap.objs.size) { s with heap := h', toks := tk }) :
    wpAny (model prog w) A (call (.type "set") [.ref l]) Q E s := by
  obtain ⟨c, tl, hmro⟩ := F.called_set.mro
  have hmade := F.called_set.made
  have hsub := F.called_set.sub
  refine wpAny_call (codeAny_of_tree ?_)
  show wpAny _ _ (callAny (.type "set") _) _ _ _
  refine wpAny_pure ⟨Code.quiet_builtin _ (by decide +kernel), codeAny_builtin F.entry_type_call ?_⟩
  rw [Around.under_plain (weight_type_call_type "set" [.ref l] []) rfl]
  have h1 := F.called_set.notType
  have h2 := F.called_set.canCreate
  have hct := F.typeCall_set_1 (.ref l)
  repeat (any_goals (first | assumption | wp_step))
  refine codeAny_mono (code_new_S (.ref l) (E := E) (Q₁ := fun obj s₁ => obj = .ref s.heap.objs.size ∧ s₁ = { s with heap := s.heap.push { cls := .type "set", dict := none, data := .set #[] 0 (.fresh 0 0 (!byText w)) } }) ⟨rfl, rfl⟩) fun r s₁ hr => ?_
  cases r with
  | error e => exact hr
  | ok fl =>
    cases fl with
    | ret obj =>
      obtain ⟨rfl, rfl⟩ := hr
      have hnew := new_SObj (w := w)
      generalize (!byText w) = led at hnew ⊢
      have hS : (s.heap.push { cls := .type "set", dict := none, data := .set #[] 0 (.fresh 0 0 led) }).get? s.heap.objs.size = some { cls := .type "set", dict := none, data := .set #[] 0 (.fresh 0 0 led) } := Heap.get?_push_size _ rfl
      have hT : Shared.TypeIs { s with heap := s.heap.push { cls := .type "set", dict := none, data := .set #[] 0 (.fresh 0 0 led) } } (.ref s.heap.objs.size) "set" := ⟨_, hS, rfl⟩
      have hli := F.called_set.init.lookup
      have hbi := F.called_set.init.bind (.ref s.heap.objs.size)
      repeat (any_goals (first | assumption | wp_step))
      refine codeAny_mono (codeAny_call_builtin (R := wants (fun r s₂ => r = .none ∧ ∃ h' tk o, s₂ = { s with heap := h', toks := tk } ∧ h'.get? s.heap.objs.size = some o ∧ SObj w o (fun x => x ∈ ns) ∧ Stay [] s.heap h') E)
        F.called_set.init.plain F.entry_set_init (check_set_init_1 hT ?_)) fun r₂ s₂ hr₂ => ?_
      · obtain ⟨ol, hol, hcl, nl, hdl⟩ := hl
        obtain ⟨ocls, odict, odata, oslots⟩ := ol
        simp only at hcl hdl
        subst hcl; subst hdl
        have hol' : (s.heap.push { cls := .type "set", dict := none, data := .set #[] 0 (.fresh 0 0 led) }).get? l = some { cls := .type "list", dict := odict, data := .seq items nl, slots := oslots } := Heap.get?_push_of_some _ hol
        have hsls := F.sub_list_set
        have hslf := F.sub_list_frozenset
        have hne : (Value.type "list" == Value.type "dict") = false := by decide
        have hl1 : (s.heap.push { cls := .type "set", dict := none, data := .set #[] 0 (.fresh 0 0 led) }).IsList l items := ⟨_, hol', rfl, nl, rfl⟩
        unfold Builtin.«set.__init__» noKeywords Builtin.Frozenset.updateFrom
        generalize hPI : pyIter = PI
        wp_walk
        subst hPI
        refine wpAny_pyIter_list hl1 ?_
        refine wpAny_bind (wpAny_runValue ?_)
        have hlS : l < s.heap.objs.size := Heap.lt_size hol
        have hzI : (s.heap.push { cls := .type "set", dict := none, data := .set #[] 0 (.fresh 0 0 led) }).objs.size = s.heap.objs.size + 1 := Heap.size_push ..
        have hh3 : A.in1.in1.handled = none := by simp [hh]
        refine loop_S (I := (s.heap.push { cls := .type "set", dict := none, data := .set #[] 0 (.fresh 0 0 led) }).objs.size) (S := s.heap.objs.size) (l := l) (items := items) (ns := ns) hh3 (Nat.ne_of_lt (by rw [hzI]; exact Nat.lt_succ_of_lt hlS)) (Nat.ne_of_lt (by rw [hzI]; exact Nat.lt_succ_self _)) (Nat.ne_of_gt hlS) hi hk (items.size - 0) 0 _ { cls := .type "set", dict := none, data := .set #[] 0 (.fresh 0 0 led) } (by omega) (Nat.zero_le _) ?ka ?kb ?kc ?kd ?ke
        case ka => exact ⟨_, Heap.get?_push_size _ rfl, rfl, rfl⟩
        case kb => exact hl1.push _
        case kc => exact Heap.get?_push_of_some _ hS
        case kd => simpa using hnew
        intro h' tk o ho hO st
        show wpAny _ _ _ _ _ _
        refine wpAny_pure ?_
        show wpAny _ _ (ret Value.none) _ _ _
        refine wpAny_pure ⟨rfl, h', tk, o, rfl, ho, hO, fun b ob _ e => ?_⟩
        have hb := Heap.lt_size e
        refine st b ob (fun q => ?_) (Heap.get?_push_of_some _ (Heap.get?_push_of_some _ e))
        rcases List.mem_cons.mp q with q | q
        · exact Nat.ne_of_lt hb q
        · have := List.mem_singleton.mp q
          rw [hzI] at this
          exact Nat.ne_of_lt (Nat.lt_succ_of_lt hb) this
      · cases r₂ with
        | error e => exact hr₂
        | ok fl₂ =>
          cases fl₂ with
          | ret r =>
            obtain ⟨rfl, h', tk, o, rfl, ho, hO, hk'⟩ := hr₂
            repeat (any_goals (first | assumption | wp_step))
            exact h _ _ _ ho hO hk'
          | _ => exact hr₂.elim
    | _ => exact hr.elim
end
end Mine
end

section
open PySem PySem.W PyProof.Rows PySem.Calls
set_option Elab.async false
set_option maxRecDepth 100000
set_option maxHeartbeats 3200000
namespace Mine
theorem offMSetF : True := by
  w_top off
  trivial
theorem slot_si_next : Slot "set_iterator" "__next__" "set_iterator.__next__" :=
  .of (owner := "set_iterator") (n := "__next__") (by rw [typeLookup_type, builtinLookup_eq_fast]; kernel_rfl) (by decide +kernel) (by decide +kernel) (by decide +kernel)
    (by first | exact .inl (by decide +kernel) | exact .inr (by decide +kernel)) (by rw [isSubtype_type]; kernel_rfl)
theorem entry_si_next : entryFor table "set_iterator.__next__" = some Builtin.«set_iterator.__next__» := entryFor_of_tree (by kernel_rfl)
theorem args_si_next (a : Value) : argsOk "set_iterator.__next__" ⟨[a], []⟩ := by unfold argsOk; kernel_rfl
theorem slot_si_iter : Slot "set_iterator" "__iter__" "set_iterator.__iter__" :=
  .of (owner := "set_iterator") (n := "__iter__") (by rw [typeLookup_type, builtinLookup_eq_fast]; kernel_rfl) (by decide +kernel) (by decide +kernel) (by decide +kernel)
    (by first | exact .inl (by decide +kernel) | exact .inr (by decide +kernel)) (by rw [isSubtype_type]; kernel_rfl)
theorem args_si_iter (a : Value) : argsOk "set_iterator.__iter__" ⟨[a], []⟩ := by unfold argsOk; kernel_rfl
theorem entry_si_iter : entryFor table "set_iterator.__iter__" = some Builtin.«dict_keyiterator.__iter__» :=
  entryFor_alias (id' := "dict_keyiterator.__iter__") (by kernel_rfl) (by first | rfl | decide +kernel | (unfold String.splitOn; simp +decide [String.splitOnAux])) (by decide +kernel) (by kernel_rfl)
theorem entry_set_iter9 : entryFor table "set.__iter__" = some Builtin.«frozenset.__iter__» :=
  entryFor_alias (id' := "frozenset.__iter__") (by kernel_rfl) (by first | rfl | decide +kernel | (unfold String.splitOn; simp +decide [String.splitOnAux])) (by decide +kernel) (by kernel_rfl)
end Mine
end

section
open PySem PySem.W PyProof.Rows PySem.Calls
set_option Elab.async false
set_option maxRecDepth 100000
set_option maxHeartbeats 3200000
namespace Mine
theorem offMSetI : True := by
  w_top off
  trivial
theorem pick_go (next : Nat → Nat) : ∀ (fuel k : Nat) (left : List (Int × Value)) (out : Array (Int × Value)), left.length ≤ fuel → (pickOrder.go next fuel k left out).toList.Perm (out.toList ++ left)
  | 0, k, left, out, h => by
    have : left = [] := List.length_eq_zero_iff.mp (by omega)
    subst this
    simp [pickOrder.go]
  | fuel + 1, k, left, out, h => by
    unfold pickOrder.go
    cases hl : left with
    | nil => simp
    | cons a r =>
      have hlt : next k % left.length < left.length := Nat.mod_lt _ (by rw [hl]; simp)
      rw [← hl, List.getElem?_eq_getElem hlt]
      dsimp only
      refine (pick_go next fuel (k + 1) _ _ (by rw [List.length_eraseIdx]; split <;> omega)).trans ?_
      rw [Array.toList_push, List.append_assoc]
      refine List.Perm.append_left _ ?_
      have e : left = left.take (next k % left.length) ++ left[next k % left.length] :: left.drop (next k % left.length + 1) := by simp
      rw [List.eraseIdx_eq_take_drop_succ]
      refine List.Perm.trans ?_ (List.Perm.of_eq e.symm)
      rw [List.singleton_append]
      exact List.perm_middle.symm
theorem pick_perm (next : Nat → Nat) (es : Array (Int × Value)) : (pickOrder next es).toList.Perm es.toList := by
  have := pick_go next es.size 0 es.toList #[] (by simp)
  simpa [pickOrder] using this
/-- the order in which a set is walked -/
def ordOf (w : World) (d : Addr) (es : Array (Int × Value)) (ep : Nat) : Array (Int × Value) := if byText w = true then pickOrder (w.params.setOrder d ep) es else es
theorem ord_perm (w : World) (d : Addr) (es : Array (Int × Value)) (ep : Nat) : (ordOf w d es ep).toList.Perm es.toList := by
  unfold ordOf; split
  · exact pick_perm _ _
  · exact .rfl
def slotOf (t : SetTable) : Nat → Nat
  | 0 => 0
  | i + 1 => t.place.getD i 0 + 1
theorem below_slot {t : SetTable} {n : Nat} (h : TOk t n) {i : Nat} (hi : i ≤ n) : SetTable.below t.place (slotOf t i) = i := by
  cases i with
  | zero => exact below_zero h.rise
  | succ i => exact below_next h.rise (by rw [h.size]; exact hi)
def IsSetIter (w : World) (h : Heap) (I d : Addr) (i : Nat) (n ep : Nat) (t : SetTable) : Prop :=
  ∃ o f, h.get? I = some o ∧ o.cls = .type "set_iterator" ∧ o.data = .fields #[.int f 0, .int i 0, .ref d, .int n 0, .int ep 0] ∧ 0 ≤ f ∧ (byText w = false → f.toNat = slotOf t i)
theorem IsSetIter.at {w : World} {h h' : Heap} {I d : Addr} {i n ep : Nat} {t : SetTable} (x : IsSetIter w h I d i n ep t) (e : ∀ o, h.get? I = some o → h'.get? I = some o) : IsSetIter w h' I d i n ep t := let ⟨o, f, ho, r⟩ := x; ⟨o, f, e _ ho, r⟩
section
variable {prog : Program} {w : World} {A : Around} {E : Value → Shared → Prop} {s : Shared}
theorem byText_S {Q : Bool → Shared → Prop} (h : Q (byText w) s) : wpAny (model prog w) A setsByText Q E s := by
  unfold setsByText
  exact wpAny_bind (wpAny_askSetting (wpAny_pure h))
theorem setNext_S {d : Addr} {i slot : Nat} {o : Obj} {es : Array (Int × Value)} {ep : Nat} {t : SetTable} {S : Int → Prop} {Q : Option (Value × Nat) → Shared → Prop} (ho : s.heap.get? d = some o) (hd : o.data = .set es ep t) (hE : SEl w es t S)
    (hs : byText w = false → slot = slotOf t i) (hi : i ≤ es.size)
    (hQ : ∀ r : Option (Value × Nat), r.map (·.1) = ((ordOf w d es ep)[i]?).map (·.2) → (∀ x n, r = some (x, n) → byText w = false → n = slotOf t (i + 1)) → Q r s) : wpAny (model prog w) A (setNext d slot i ep) Q E s := by
  unfold setNext
  refine wpAny_bind (wpAny_setState_of ho hd hE.fits ?_)
  refine wpAny_bind (byText_S ?_)
  dsimp only
  by_cases hb : byText w = true
  · rw [if_pos hb]
    rw [if_neg (by simp)]
    refine wpAny_bind ?_
    unfold setWalk
    refine wpAny_bind (wpAny_setState_of ho hd hE.fits ?_)
    refine wpAny_bind (byText_S ?_)
    rw [if_pos hb]
    refine wpAny_bind (wpAny_askSetting (wpAny_pure (wpAny_pure ?_)))
    refine hQ _ ?_ (fun _ _ _ q => by rw [hb] at q; cases q)
    unfold ordOf
    rw [if_pos hb]
    simp [Option.map_map]
    rfl
  · rw [if_neg hb]
    have hb' : byText w = false := by simpa using hb
    have ok := (hE.tab hb').1
    rw [if_neg (by show ¬ ((!t.plain && decide (es.size > 1)) = true); rw [ok.plain]; simp)]
    refine wpAny_bind (wpAny_of_eq (a := ()) (by show (if (!t.led && !es.isEmpty) = true then _ else _) = _; rw [ok.led]; rfl) ?_)
    rw [hs hb', below_slot ok hi]
    refine wpAny_pure ?_
    have hord : ordOf w d es ep = es := by unfold ordOf; rw [if_neg hb]
    by_cases hlt : i < es.size
    · have h1 : es[i]? = some es[i] := Array.getElem?_eq_getElem hlt
      have hlt2 : i < t.place.size := by rw [ok.size]; exact hlt
      have h2 : t.place[i]? = some t.place[i] := Array.getElem?_eq_getElem hlt2
      refine hQ _ ?_ ?_
      · rw [hord, h1, h2]; rfl
      · intro x n e _
        rw [h1, h2] at e
        cases e
        simp [slotOf, Array.getD, hlt2]
    · have h1 : es[i]? = none := Array.getElem?_eq_none (by omega)
      refine hQ _ ?_ ?_
      · rw [hord, h1]; rfl
      · intro x n e _
        rw [h1] at e
        cases e
theorem next_S {I d : Addr} {i : Nat} {o : Obj} {es : Array (Int × Value)} {ep : Nat} {t : SetTable} {S : Int → Prop} {Q : Option Value → Shared → Prop} (hit : IsSetIter w s.heap I d i es.size ep t) (ho : s.heap.get? d = some o) (hd : o.data = .set es ep t) (hE : SEl w es t S) (hi : i < es.size)
    (hQ : ∀ e h', (ordOf w d es ep)[i]? = some e → IsSetIter w h' I d (i + 1) es.size ep t → Heap.SameBut I s.heap h' → Q (some e.2) { s with heap := h' }) : wpAny (model prog w) A (pyNext (.ref I)) Q E s := by
  obtain ⟨oI, f, hoI, hcI, hdI, hf0, hf⟩ := hit
  have hT : s.TypeIs (.ref I) "set_iterator" := ⟨oI, hoI, hcI⟩
  have hsz : (ordOf w d es ep).size = es.size := by have := (ord_perm w d es ep).length_eq; simpa using this
  have hx : (ordOf w d es ep)[i]? = some ((ordOf w d es ep)[i]'(by omega)) := Array.getElem?_eq_getElem (by omega)
  generalize ((ordOf w d es ep)[i]'(by omega)) = e at hx
  unfold pyNext
  refine wpAny_bind (wpAny_attempt (wpAny_callSpecial?_slot (name := Str.ofString "__next__") hT slot_si_next
    (wpAny_call_entry slot_si_next hT entry_si_next ?_ (args_si_next _))))
  unfold Builtin.«set_iterator.__next__»
  refine wpAny_bind (wpAny_of_eq (a := (Value.ref I, [])) rfl ?_)
  dsimp only
  refine wpAny_bind (wpAny_fieldsOf hoI hdI ?_)
  dsimp only
  refine wpAny_bind (wpAny_setEntries_of ho hd hE.fits ?_)
  rw [if_neg (by simp)]
  refine wpAny_bind (setNext_S (slot := f.toNat) (i := (i : Int).toNat) ho hd hE (by simpa using hf) (by simp; omega) fun r hr1 hr2 => ?_)
  have ei : ((i : Int)).toNat = i := by simp
  rw [ei, show ((ep : Int)).toNat = ep from by simp, hx] at hr1
  rw [ei] at hr2
  cases r with
  | none => cases hr1
  | some p =>
    obtain ⟨x, n⟩ := p
    have ex : x = e.2 := by simpa using hr1
    subst ex
    dsimp only
    refine wpAny_bind (wpAny_setField hoI hdI (by simp) ?_)
    have ho2 := Heap.get?_update_self (Obj.mapFields fun x => x.setIfInBounds 0 (rawInt (n : Int))) hoI (Obj.isFreed_of_fields (Obj.data_mapFields hdI _))
    have hd2 := Obj.data_mapFields hdI (fun x => x.setIfInBounds 0 (rawInt (n : Int)))
    refine wpAny_bind (wpAny_setField ho2 hd2 (by simp) ?_)
    have ho3 := Heap.get?_update_self (Obj.mapFields fun x => x.setIfInBounds 1 (rawInt ((i : Int) + 1))) ho2 (Obj.isFreed_of_fields (Obj.data_mapFields hd2 _))
    refine wpAny_pure ⟨e.2, rfl, wpAny_pure (hQ e _ hx ?_ ((Heap.SameBut.update _ _ _).trans (Heap.SameBut.update _ _ _)))⟩
    refine ⟨_, (n : Int), ho3, ((Obj.cls_mapFields ..).trans (Obj.cls_mapFields ..)).trans hcI, ?_, by omega, fun hb => ?_⟩
    · rw [Obj.data_mapFields hd2]
      simp [rawInt]
    · have := hr2 e.2 n rfl hb
      simpa using this
theorem end_S {I d : Addr} {o : Obj} {es : Array (Int × Value)} {ep : Nat} {t : SetTable} {S : Int → Prop} {Q : Option Value → Shared → Prop} (hh : A.handled = none) (hit : IsSetIter w s.heap I d es.size es.size ep t) (ho : s.heap.get? d = some o) (hd : o.data = .set es ep t) (hE : SEl w es t S)
    (hQ : ∀ h', Heap.ExtBut I s.heap h' → Q none { s with heap := h' }) : wpAny (model prog w) A (pyNext (.ref I)) Q E s := by
  obtain ⟨oI, f, hoI, hcI, hdI, hf0, hf⟩ := hit
  have hT : s.TypeIs (.ref I) "set_iterator" := ⟨oI, hoI, hcI⟩
  have hsz : (ordOf w d es ep).size = es.size := by have := (ord_perm w d es ep).length_eq; simpa using this
  have hx : (ordOf w d es ep)[es.size]? = none := Array.getElem?_eq_none (by omega)
  unfold pyNext
  refine wpAny_bind (wpAny_attempt (wpAny_callSpecial?_slot (name := Str.ofString "__next__") hT slot_si_next
    (wpAny_call_entry slot_si_next hT entry_si_next ?_ (args_si_next _))))
  unfold Builtin.«set_iterator.__next__»
  refine wpAny_bind (wpAny_of_eq (a := (Value.ref I, [])) rfl ?_)
  dsimp only
  refine wpAny_bind (wpAny_fieldsOf hoI hdI ?_)
  dsimp only
  refine wpAny_bind (wpAny_setEntries_of ho hd hE.fits ?_)
  rw [if_neg (by simp)]
  refine wpAny_bind (setNext_S (slot := f.toNat) (i := (es.size : Int).toNat) ho hd hE (by simpa using hf) (by simp) fun r hr1 hr2 => ?_)
  have ei : ((es.size : Int)).toNat = es.size := by simp
  rw [ei, show ((ep : Int)).toNat = ep from by simp, hx] at hr1
  cases r with
  | some p => cases hr1
  | none =>
    dsimp only
    refine wpAny_bind (wpAny_setField hoI hdI (by simp) ?_)
    show wpAny _ _ (newExc (.type "StopIteration") [] >>= _) _ _ _
    refine wpAny_bind ?_
    simp only [newExc, newTuple]
    refine wpAny_bind (wpAny_newObj_type ?_ (by size_fits))
    refine wpAny_bind (m := firstArgMember _ _) (wpAny_of_eq (a := Value.none) (by first | rfl | (simp only [firstArgMember]; rfl)) ?_)
    refine wpAny_newObj_type ?_ (by size_fits)
    simp only [raiseNew]
    refine wpAny_bind (wpAny_handled ?_)
    first | rw [show A.in1.handled = none from hh] | rw [hh]
    refine wpAny_bind (wpAny_pure (wpAny_throw ?_))
    refine wpAny_bind (wpAny_isInstance (T := "StopIteration") (b := true) ⟨_, Heap.get?_push_size _ rfl, rfl⟩ isSubtype_stop ?_)
    exact wpAny_pure (hQ _ ((((Heap.SameBut.update _ _ _).extBut).push _).push _))
theorem iter_S {I d : Addr} {i n ep : Nat} {t : SetTable} {Q : Value → Shared → Prop} (hit : IsSetIter w s.heap I d i n ep t) (h : Q (.ref I) s) : wpAny (model prog w) A (pyIter (.ref I)) Q E s := by
  obtain ⟨oI, f, hoI, hcI, hdI, hf0, hf⟩ := hit
  have hT : s.TypeIs (.ref I) "set_iterator" := ⟨oI, hoI, hcI⟩
  refine wpAny_pyIter_slot hT slot_si_iter (wpAny_call_entry slot_si_iter hT entry_si_iter ?_ (args_si_iter _))
  show wpAny _ _ (ret (.ref I)) _ _ s
  exact wpAny_pure ⟨_, rfl, "set_iterator", _, hT, slot_si_next.lookup, h⟩
theorem make_S {d : Addr} {o : Obj} {es : Array (Int × Value)} {ep : Nat} {t : SetTable} {S : Int → Prop} {Q : Value → Shared → Prop} (ho : s.heap.get? d = some o) (hex : o.ExactSet) (hd : o.data = .set es ep t) (hE : SEl w es t S)
    (h : Q (.ref s.heap.objs.size) { s with heap := s.heap.push { cls := .type "set_iterator", data := .fields #[rawInt 0, rawInt 0, .ref d, rawInt es.size, rawInt ep] } }) : wpAny (model prog w) A (pyIter (.ref d)) Q E s := by
  have hT : s.TypeIs (.ref d) "set" := ⟨o, ho, hex.1⟩
  refine wpAny_pyIter_slot hT F.slot_set_iter (wpAny_call_entry F.slot_set_iter hT entry_set_iter9 ?_ (F.args_set_iter_1 _))
  unfold Builtin.«frozenset.__iter__»
  refine wpAny_bind (m := Builtin.Frozenset.slot0 _ _) (wpAny_of_eq (a := d) rfl ?_)
  refine wpAny_bind (m := Builtin.Frozenset.sizeOf _) ?_
  unfold Builtin.Frozenset.sizeOf
  refine wpAny_bind (wpAny_setEntries_of ho hd hE.fits (wpAny_pure ?_))
  refine wpAny_bind ?_
  unfold setDrawn
  refine wpAny_bind (wpAny_setState_of ho hd hE.fits ?_)
  refine wpAny_bind (byText_S (wpAny_pure ?_))
  have hdr : ∀ b : Bool, byText w = b → (!b && (!t.plain && decide (es.size > 1))) = false := fun b hb => by
    cases b with
    | true => rfl
    | false => rw [(hE.tab hb).1.plain]; rfl
  rw [if_neg (by show ¬ ((!(byText w) && (!t.plain && decide (es.size > 1))) = true); rw [hdr _ rfl]; simp)]
  refine wpAny_bind (wpAny_pure ?_)
  refine wpAny_bind (wpAny_setEpoch_of ho hd hE.fits ?_)
  refine wpAny_bind (wpAny_newObj_type (wpAny_pure ?_))
  exact ⟨_, rfl, "set_iterator", _, ⟨_, Heap.get?_push_size _ rfl, rfl⟩, slot_si_next.lookup, h⟩
end
end Mine
end

section
open PySem PySem.W PyProof.Rows PySem.Calls
set_option Elab.async false
set_option maxRecDepth 100000
set_option maxHeartbeats 3200000
namespace Mine
theorem offMSetS : True := by
  w_top off
  trivial
section
variable {prog : Program} {w : World} {A : Around} {E : Value → Shared → Prop} {s : Shared} {g : Heap} {L : Addr} {m : Str → Option Value} {news : List (Addr × Obj)}
theorem hint_S {r : Addr} {Q : Bool → Shared → Prop} (hT : s.TypeIs (.ref r) "set") (h : Q false s) : wpAny (model prog w) A (Builtin.List.listLengthHint (.ref r)) Q E s := by
  unfold Builtin.List.listLengthHint
  refine wpAny_bind (wpAny_specialOf hT PySem.F.slot_set_len.lookup ?_)
  generalize hid : ("set.__len__" : String) = id0
  wp_delta
  rw [show splitId id0 = some ("set", "__len__") from by subst hid; decide +kernel]
  subst hid
  refine wpAny_bind (wpAny_isInstance (T := "set") (b := true) hT sub_set_self ?_)
  refine wpAny_ite_split (fun hab => absurd hab (by decide)) (fun _ => ?_)
  refine wpAny_ite_split (fun _ => ?_) (fun hab => absurd (by decide +kernel) hab)
  refine wpAny_bind (wpAny_typeOf hT ?_)
  exact wpAny_pure h
theorem kset {d : Addr} {o : Obj} {es : Array (Int × Value)} {ep : Nat} {t : SetTable} {S : Int → Prop} (hex : o.ExactSet) (hd : o.data = .set es ep t) (hE : SEl w es t S) :
    KdlSrc prog w "set" d d es.size (fun i v => ∃ e, (ordOf w d es ep)[i]? = some e ∧ v = e.2) (fun h => h.get? d = some o) where
  type := fun _ ho => ⟨o, ho, hex.1⟩
  there := fun _ ho => ⟨Heap.lt_size ho, Heap.lt_size ho⟩
  keep := fun _ _ ho hk => hk d (.inl rfl) o ho
  notList := by decide
  notTuple := by decide
  hint := fun _ _ _ _ ho hq => hint_S ⟨o, ho, hex.1⟩ hq
  iter := fun A s hh ho => by
    have hlt : d < s.heap.objs.size := Heap.lt_size ho
    have hne : d ≠ s.heap.objs.size := Nat.ne_of_lt hlt
    refine ⟨_, fun i h => IsSetIter w h s.heap.objs.size d i es.size ep t ∧ h.get? d = some o, fun E Q hq => make_S ho hex hd hE hq, ?_, ?_⟩
    · exact {
        sub := fun b hb => by rw [List.mem_singleton.mp hb]; exact .head _
        frame := fun _ _ _ st hk => ⟨st.1.at fun ob e => hk _ (.head _) ob e, hk d (.tail _ (.head _)) o st.2⟩
        item := fun i s' Q E hi st hQ => next_S st.1 st.2 hd hE hi fun e h' he hit' hs' =>
          hQ e.2 h' s'.toks ⟨e, he, rfl⟩ ⟨hit', (hs'.2 d hne).trans st.2⟩ fun b ob hb e => hs'.extBut b ob (fun q => hb (by rw [q]; exact .head _)) e
        done := fun s' Q E st hQ => end_S hh st.1 st.2 hd hE fun h' he => hQ h' s'.toks fun b ob hb e => he b ob (fun q => hb (by rw [q]; exact .head _)) e
        self := fun i s' Q E st hq => iter_S st.1 hq }
    · refine ⟨⟨_, 0, Heap.get?_push_size _ rfl, rfl, rfl, Int.le_refl _, fun _ => rfl⟩, Heap.get?_push_of_some _ ho⟩
/-- sorted(s) of a set of the law's keys -/
theorem sorted_S {d : Addr} {o : Obj} {S : Int → Prop} {Q : Value → Shared → Prop} (hh : A.handled = none) (F : Fr g L s.heap m) (N : News g L s.heap news) (hm : (d, o) ∈ news) (hO : SObj w o S)
    (h : ∀ D h' tk us ns e, Fr g L h' m → News g L h' ((D, PySem.W.listOf us.toArray e) :: news) → (∀ q ∈ news, q.1 < D) → IntsAre us ns → ns.Pairwise (· < ·) → (∀ k, k ∈ ns ↔ S k) → Q (.ref D) { s with heap := h', toks := tk }) :
    wpAny (model prog w) A (call (.builtin "sorted") [.ref d]) Q E s := by
  obtain ⟨es, ep, t, hex, hd, hE⟩ := hO
  have h7 := hE.le
  have hp := ord_perm w d es ep
  have hsz : (ordOf w d es ep).size = es.size := by have := hp.length_eq; simpa using this
  refine kdu_sorted (kset (prog := prog) hex hd hE) hh F N (N _ hm).1 (by rw [sizeLine_eq]; omega) fun D h' tk vs F' N' l1 hlen hv => ?_
  have hi : IntsAre vs ((ordOf w d es ep).toList.map (·.1)) := by
    have key : ∀ (l : List (Int × Value)) (us : List Value), (∀ e ∈ l, ∃ k tok, e = (k, Value.int k tok)) → us.length = l.length → (∀ (j : Nat) (v : Value), us[j]? = some v → ∃ e, l[j]? = some e ∧ v = e.2) → IntsAre us (l.map (·.1)) := by
      intro l
      induction l with
      | nil => intro us _ hl _; rw [List.length_eq_zero_iff.mp hl]; exact .nil
      | cons a r ih =>
        intro us he hl hv
        match us, hl with
        | u :: us, hl =>
          obtain ⟨e, h1, h2⟩ := hv 0 u rfl
          have e1 : a = e := by simpa using h1
          obtain ⟨k, tok, h3⟩ := he a (.head _)
          subst e1
          rw [h2, h3]
          exact .cons k tok (ih us (fun e he' => he e (.tail _ he')) (by simpa using hl) fun j v hj => by simpa using hv (j + 1) v (by simpa using hj))
    refine key _ vs (fun e he => ?_) (by rw [hlen]; simpa using hsz.symm) (fun j v hj => by
      obtain ⟨e, h1, h2⟩ := hv j v hj
      exact ⟨e, by rw [Array.getElem?_toList]; exact h1, h2⟩)
    obtain ⟨k, tok, _, q⟩ := hE.el e (hp.mem_iff.mp he)
    exact ⟨k, tok, q⟩
  have hp2 : ((ordOf w d es ep).toList.map (·.1)).Perm (hsOf es) := hp.map _
  refine sort_call F' N' l1 hi (by omega) fun h'' us ns' e F'' N'' a1 a2 a3 => ?_
  exact h D h'' tk us ns' e F'' N'' l1 a1 (rising_of a3 (a2.trans hp2) hE.nd) fun k => ((a2.trans hp2).mem_iff).trans (hE.mem k)
end
end Mine
end

section
open PySem PySem.W PyProof.Rows PySem.Calls
set_option Elab.async false
set_option maxRecDepth 100000
set_option maxHeartbeats 16000000
namespace Mine
theorem offMLaw1 : True := by
  w_top off
  trivial
set_option pp.deepTerms false
set_option pp.deepTerms.threshold 8
section
variable {prog : Program} {w : World} {A : Around} {s : Shared} {E : Value → Shared → Prop} {g : Heap} {L : Addr} {m : Str → Option Value} {news : List (Addr × Obj)}
def rangeT (n : Int) (t a b : Tok) : Obj := { cls := .type "range", data := .fields #[.int 0 a, .int n t, .int 1 b] }
theorem range_K {n : Int} {t : Tok} {Q : Value → Shared → Prop} (F : Fr g L s.heap m) (N : News g L s.heap news)
    (h : ∀ I a b h' tk, Fr g L h' m → News g L h' ((I, rangeT n t a b) :: news) → (∀ q ∈ news, q.1 < I) → L < I → Q (.ref I) { s with heap := h', toks := tk }) :
    wpAny (model prog w) A (call (.type "range") [.int n t]) Q E s :=
  call_range_1 (h _ _ _ _ _ (F.push _) (News.push F N _) (fun _ hq => Heap.lt_size (N _ hq).1) F.ns.lt)
theorem for_range {env : Env} {x : Str} {body : List Stmt} {Q : Flow → Shared → Prop} {r I : Addr} {n : Int} {t a b : Tok} (J : Nat → (Str → Option Value) → List (Addr × Obj) → Prop) {nx₀ : List (Addr × Obj)} (hI : I = s.heap.objs.size) (hh : A.handled = none) (F : Fr g env.locals s.heap m)
    (N : News g env.locals s.heap ((r, rangeT n t a b) :: nx₀)) (hn : 0 ≤ n) (hn2 : n ≤ 100) (hJ : ∀ i m nx, J i m nx → ∀ p ∈ nx, p.1 ≠ I) (h0 : J 0 m nx₀)
    (turn : ∀ (i : Nat) (u : Tok) m₁ nx h tk oI, (i : Int) < n → oI.cls ≠ .type "tuple" → J i m₁ nx → Fr g env.locals h (fun y => if y = x then some (.int i u) else m₁ y) → News g env.locals h ((I, oI) :: nx) →
      wpAny (model prog w) A (execs body env) (MPost g env.locals (J (i + 1)) [(I, oI)] { s with heap := h, toks := tk } Q) E { s with heap := h, toks := tk })
    (done : ∀ m₁ nx h tk, J n.toNat m₁ nx → Fr g env.locals h m₁ → News g env.locals h nx → Q .next { s with heap := h, toks := tk }) :
    wpAny (model prog w) A (pyIter (.ref r)) (fun it s₂ => LoopAtV prog w A g env x body Q E it s₂) E s := by
  have hr := N _ (.head _)
  refine wpAny_pyIter_range (a := 0) (b := n) (c := 1) (t := a) (u := t) (v := b) hr.1 (small_one (by decide) (by decide) (by omega) (by omega)) ?_
  have er : Builtin.Range.rangeSize 0 n 1 = n := by rw [rangeSize_one]; split <;> omega
  rw [er]
  have W := Walks.range (prog := prog) (w := w) hh I 0 1 n.toNat
  have hIg : g.get? I = none := by rw [hI]; exact next_is_new F
  have hLI : env.locals < I := by rw [hI]; exact F.ns.lt
  refine ⟨I, [I], [I], n.toNat, _, _, m, nx₀, J, by rw [hI], W, (fun q => Nat.ne_of_lt hLI (List.mem_singleton.mp q)), (fun c hc => by rw [List.mem_singleton.mp hc]; exact hIg), (fun p hp q => hJ _ _ _ h0 p hp (List.mem_singleton.mp q)), ?_, F.push _, (fun p hp => ⟨Heap.get?_push_of_some _ (N p (.tail _ hp)).1, (N p (.tail _ hp)).2⟩), h0, ?_, fun h' tk m' news' F' N' _ hj => done m' news' h' tk hj F' N'⟩
  · have e : (0 : Int) + ((0 : Nat) : Int) * 1 = 0 := by simp
    have e2 : ((n.toNat : Nat) : Int) - ((0 : Nat) : Int) = n := by omega
    rw [e, e2, hI]
    exact Heap.get?_push_size _ rfl
  rintro i v m₁ news₁ s₁ own ⟨hh', tk', rfl⟩ hin ⟨u, rfl⟩ hj _ hown hget hmem hSt F₁ N₁
  have e : (0 : Int) + (i : Int) * 1 = i := by omega
  rw [e] at F₁
  obtain ⟨oI, hoI, hcl⟩ : ∃ oI : Obj, hh'.get? I = some oI ∧ oI.cls ≠ .type "tuple" := ⟨_, hSt, fun q => absurd (Value.type.inj q) (by decide)⟩
  have hmI := hmem I (.head _) hIg _ hoI
  have hall : ∀ p ∈ own, p = (I, oI) := fun p hp => by
    have h1 := List.mem_singleton.mp (hown p hp)
    have h2 := hget p hp
    rw [h1] at h2
    have h3 := Option.some.inj (hoI.symm.trans h2)
    cases p
    simp only at h1 h3
    rw [h1, h3]
  have N₂ : News g env.locals hh' ((I, oI) :: news₁) := fun p hp => by
    rcases List.mem_cons.mp hp with rfl | hp
    · exact N₁ _ (List.mem_append_left _ hmI)
    · exact N₁ p (List.mem_append_right _ hp)
  refine wpAny_mono (turn i u m₁ news₁ hh' tk' oI (by omega) hcl hj F₁ N₂) (fun f s₂ p => ?_) fun _ _ e => e
  have fin : MEnd g env.locals (J (i + 1)) [(I, oI)] { s with heap := hh', toks := tk' } s₂ → LoopStepU g env.locals [I] own (J (i + 1)) { s with heap := hh', toks := tk' } .next s₂ := by
    rintro ⟨h', tk, m', news', nx, e, F', N', hn, ho, hm⟩
    refine ⟨rfl, h', tk, m', nx, e, F', fun p hp => N' p ((List.mem_append.mp hp).elim (fun q => by rw [hall p q]; exact ho _ (.head _)) (hn p)), fun p hp q => hJ _ _ _ hm p hp (List.mem_singleton.mp q), hm⟩
  cases f with
  | ret v => exact p
  | brk => exact p
  | next => exact fin p
  | cont => exact fin p
section
variable {w : World} {s : Shared} {mean : ExcName → Option Value} {mg mb : Str → Option Value} {Q E : Value → Shared → Prop} {dp un : Nat} {fr : List Env} {gd : Option (List Code)}
  {g : Heap} {L : Addr} {m : Str → Option Value} {news : List (Addr × Obj)} {st row : Addr} {vs : List Value} {ns : List Int} {at' : Int} {t1 : Tok} {n1 : Nat}
/-- a new thing of a contract that leaves all else alone, put into the ledger -/
theorem news_new {s h' : Heap} {b : Addr} {o : Obj} (F : Fr g L s m) (N : News g L s news) (st : Stay [] s h') (hn : s.get? b = none) (hb : h'.get? b = some o) :
    News g L h' ((b, o) :: news) ∧ (∀ p ∈ news, p.1 ≠ b) := by
  obtain ⟨oL, _, _, hL, _⟩ := F.ns
  refine ⟨fun p hp => ?_, fun p hp e => by have := (N p hp).1; rw [e, hn] at this; cases this⟩
  rcases List.mem_cons.mp hp with rfl | hp
  · refine ⟨hb, fun e => ?_, ?_⟩
    · rw [← e] at hL; exact absurd (hn.symm.trans hL) (by simp)
    · cases hg : g.get? b with
      | none => rfl
      | some o => rw [F.keep b o hg] at hn; cases hn
  · exact news_stay N st p hp
theorem expr_L {d : Nat} {met : Addr} {t0 : Tok} {n2 : Nat} {us : List Value} {ms : List Int} {e : Int} (keep : List (Addr × Obj)) (H : ExprOk w mean mg mb d)
    (F : Fr g L s.heap m) (N : News g L s.heap news) (X : (Mine.hd.heap_39 w.params).In g) (T' : Top Mine.hd.view_39 (looseW Mine.hd.view_39 []) mean mg mb g)
    (hst : (st, stObj row at' t1 n1) ∈ news) (hmet : (met, PySem.W.listOf us.toArray n2) ∈ news) (hk : ∀ p ∈ keep, p ∈ news ∧ p.1 ≠ st ∧ p.1 ≠ met ∧ p.2.cls ≠ .type "tuple") (hrow : s.heap.IsList row vs.toArray) (hi : IntsAre vs ns) (hj : IntsAre us ms) (hne : row ≠ st) (hne2 : row ≠ met) (hne3 : met ≠ st)
    (hdp : dp + 140 + d < recursionLimit) (hun : un + 300 + 20 * d < cLine) (h0 : 0 ≤ at') (h1 : at' + cst d ≤ 390) (hl : ns.length ≤ 40) (hl2 : ms.length + sz d ≤ 1000) (he : e = d)
    (h : ∀ v t at2 t' n1' us' n2' h' tk tl', Fr g L h' m → News g L h' ((st, stObj row at2 t' n1') :: (met, PySem.W.listOf us'.toArray n2') :: (keep ++ tl')) → (∀ p ∈ tl', p.1 ≠ st ∧ p.1 ≠ met ∧ ∀ q ∈ keep, p.1 ≠ q.1) →
      (∀ a xs, Has g news a xs → Has g tl' a xs) → TreeG (Has g tl') v t → t.size ≤ sz d → t.keys.length ≤ sz d → (∀ k ∈ t.keys, KeyOk k) → at' ≤ at2 → at2 ≤ at' + cst d → IntsAre us' (ms ++ t.keys) → Q v { s with heap := h', toks := tk }) :
    wpAny (model PySem.Challenge.rw_on0082_01.row.prog w) (Ard dp un fr gd) (PySem.call (.ref 56) [.ref st, .int e t0, .ref met]) Q E s := by
  have hN := N _ hst
  have hM := N _ hmet
  refine H s g dp un fr gd st met row vs ns at' t0 t1 n1 n2 us ms e Q E ⟨X, T'⟩ F.keep hdp hun hN.2.2 hM.2.2 hN.1 hM.1 hrow hi hj hne hne2 hne3 h0 h1 hl hl2 he fun v t at2 t' n1' us' n2' h' tk G => ?_
  have F' : Fr g L h' m := fr_stay F G.stay fun a ha => by
    rcases List.mem_cons.mp ha with rfl | ha
    · exact hN.2
    · rw [List.mem_singleton.mp ha]; exact hM.2
  have hkeep : ∀ p ∈ keep, h'.get? p.1 = some p.2 := fun p hp => G.stay _ _ (fun q => by
    rcases List.mem_cons.mp q with q | q
    · exact (hk p hp).2.1 q
    · exact (hk p hp).2.2.1 (List.mem_singleton.mp q)) (N p (hk p hp).1).1
  have hex : ∀ b ∈ st :: met :: keep.map (·.1), ∀ o, h'.get? b = some o → o.cls ≠ .type "tuple" := fun b hb o ho => by
    rcases List.mem_cons.mp hb with rfl | hb
    · rw [G.st] at ho; cases ho; exact listNeTup
    · rcases List.mem_cons.mp hb with rfl | hb
      · rw [G.met] at ho; cases ho; exact listNeTup
      · obtain ⟨p, hp, rfl⟩ := List.mem_map.mp hb
        rw [hkeep p hp] at ho; cases ho; exact (hk p hp).2.2.2
  refine h v t at2 t' n1' us' n2' h' tk (rest g L (st :: met :: keep.map (·.1)) h') F' ?_ (fun p hp => ⟨rest_ne (.head _) p hp, rest_ne (.tail _ (.head _)) p hp, fun q hq => rest_ne (.tail _ (.tail _ (List.mem_map_of_mem hq))) p hp⟩) (fun a xs x => ?_) (G.tree.mono fun a xs x => has_of_tup F' hex x) G.size (Nat.le_trans (keys_size t) G.size) G.keys G.le1 G.le2 G.vals
  · intro p hp
    rcases List.mem_cons.mp hp with rfl | hp
    · exact ⟨G.st, hN.2⟩
    · rcases List.mem_cons.mp hp with rfl | hp
      · exact ⟨G.met, hM.2⟩
      · rcases List.mem_append.mp hp with hp | hp
        · exact ⟨hkeep p hp, (N p (hk p hp).1).2⟩
        · exact news_rest p hp
  · refine has_of_tup F' hex ?_
    obtain ⟨o, ho, hc, r⟩ := x.tup F N fun _ q => q
    refine ⟨o, G.stay a o (fun q => ?_) ho, hc, r⟩
    rcases List.mem_cons.mp q with rfl | q
    · rw [hN.1] at ho; cases ho; exact absurd hc listNeTup
    · rw [List.mem_singleton.mp q, hM.1] at ho; cases ho; exact absurd hc listNeTup
theorem reads_L {v : Value} {t : T} {tl : List (Addr × Obj)} (F : Fr g L s.heap m) (N : News g L s.heap news) (X : (Mine.hd.heap_39 w.params).In g) (T' : Top Mine.hd.view_39 (looseW Mine.hd.view_39 []) mean mg mb g)
    (htl : ∀ p ∈ tl, p ∈ news) (tr : TreeG (Has g tl) v t) (hdp : dp + 60 < recursionLimit) (hun : un + 300 < cLine) (ok : (Arg.ex t).Ok)
    (h : ∀ b us ns n h' tk, Fr g L h' m → News g L h' ((b, PySem.W.listOf us.toArray n) :: news) → (∀ p ∈ news, p.1 ≠ b) → IntsAre us ns → ns.Pairwise (· < ·) → (∀ k, k ∈ ns ↔ k ∈ t.keys) → Q (.ref b) { s with heap := h', toks := tk }) :
    wpAny (model PySem.Challenge.rw_on0082_01.row.prog w) (Ard dp un fr gd) (call (.ref 35) [v]) Q E s :=
  reads_spec w s mean mg mb s.heap (Base.keeps ⟨X, T'⟩ F.keep) (fun _ _ e => e) dp un fr gd hdp hun v t (kid tr F N htl) ok.1 ok.2 Q E fun b us ns n h' tk st hn hb hi hp hk =>
    have q := news_new F N st hn hb
    h b us ns n h' tk (fr_stay F st fun _ ha => nomatch ha) q.1 q.2 hi hp hk
theorem args_L {aA : Addr} {n2 : Nat} {vals : List Value} {as : List Arg} {tl : List (Addr × Obj)} (F : Fr g L s.heap m) (N : News g L s.heap news) (X : (Mine.hd.heap_39 w.params).In g) (T' : Top Mine.hd.view_39 (looseW Mine.hd.view_39 []) mean mg mb g)
    (hA : (aA, PySem.W.listOf vals.toArray n2) ∈ news) (ha : Args9 (Has g tl) vals as) (htl : ∀ p ∈ tl, p ∈ news) (hdp : dp + 80 < recursionLimit) (hun : un + 350 < cLine) {S : Int → Prop} (hS : ∀ k, S k ↔ ∃ a ∈ as, k ∈ a.keys)
    (h : ∀ d o kvs h' tk, Fr g L h' m → News g L h' ((d, o) :: news) → (∀ p ∈ news, p.1 ≠ d) → o.IsDictOf (intKind PySem.Challenge.rw_on0082_01.row.prog w) kvs → (d == sysModules) = false → kvs.length ≤ 60 → (∀ k, k ∈ kvs.map (·.1) ↔ S k) → Q (.ref d) { s with heap := h', toks := tk }) :
    wpAny (model PySem.Challenge.rw_on0082_01.row.prog w) (Ard dp un fr gd) (call (.ref 42) [.ref aA]) Q E s :=
  args_spec w s mean mg mb s.heap (Base.keeps ⟨X, T'⟩ F.keep) (fun _ _ e => e) dp un fr gd hdp hun aA vals as ⟨_, (N _ hA).1, rfl, _, rfl⟩ (ha.mono fun _ _ x => x.tup F N htl) Q E fun d o kvs h' tk st hn hd hk lo hall =>
    have q := news_new F N st hn hd
    have hle : kvs.length ≤ 60 := by
      have hnd : (kvs.map (·.1)).Nodup := by obtain ⟨_, _, _, _, _, _, q⟩ := hk; exact q
      have := keys_le hnd fun k hk' => by
        obtain ⟨a, ha', hka⟩ := (hall k).mp hk'
        exact ha.ok a ha' k hka
      have e : (kvs.map (·.1)).length = kvs.length := List.length_map ..
      omega
    h d o kvs h' tk (fr_stay F st fun _ hx => nomatch hx) q.1 q.2 hk lo hle fun k => (hall k).trans (hS k).symm
end
section
variable {prog : Program} {w : World} {A : Around} {s : Shared} {E : Value → Shared → Prop} {g : Heap} {L : Addr} {m : Str → Option Value} {news : List (Addr × Obj)}
theorem set_L {l : Addr} {us : List Value} {n : Nat} {ns : List Int} {Q : Value → Shared → Prop} (hh : A.handled = none) (F : Fr g L s.heap m) (N : News g L s.heap news) (hl : (l, PySem.W.listOf us.toArray n) ∈ news) (hi : IntsAre us ns) (hk : ∀ k ∈ ns, KeyOk k)
    (h : ∀ d o h' tk, Fr g L h' m → News g L h' ((d, o) :: news) → (∀ p ∈ news, p.1 ≠ d) → SObj w o (fun x => x ∈ ns) → Q (.ref d) { s with heap := h', toks := tk }) :
    wpAny (model prog w) A (call (.type "set") [.ref l]) Q E s :=
  set_new hh ⟨_, (N _ hl).1, rfl, _, rfl⟩ (by simpa using hi) hk fun h' tk o ho hO st =>
    have q := news_new F N st (Heap.get?_none_of_le (Nat.le_refl _)) ho
    h _ o h' tk (fr_stay F st fun _ hx => nomatch hx) q.1 q.2 hO
end
end
theorem sizes_of {g : Heap} {L : Addr} {h : Heap} {news : List (Addr × Obj)} (N : News g L h news) : ∀ p ∈ news, p.1 < h.objs.size := fun p hp => Heap.lt_size (N p hp).1
theorem news_sub {g : Heap} {L : Addr} {h : Heap} {news news' : List (Addr × Obj)} (N : News g L h news) (k : ∀ p ∈ news', p ∈ news) : News g L h news' := fun p hp => N p (k p hp)
theorem take40 {ws : List Value} {ns : List Int} (_ : IntsAre ws (List.take 40 ns)) : (List.take 40 ns).length ≤ 40 := Nat.le_trans (Nat.le_of_eq (List.length_take)) (Nat.min_le_left _ _)
theorem size_of {g : Heap} {L : Addr} {h : Heap} {m : Str → Option Value} (_ : Fr g L h m) : ∃ I, I = h.objs.size := ⟨_, rfl⟩
def LawJ (g : Heap) (ST AR R I : Addr) (rowO : Obj) (i : Nat) (m : Str → Option Value) (nx : List (Addr × Obj)) : Prop :=
  ∃ AM at' t n1 vals n2 as us n3 ams tl, nx = (ST, stObj R at' t n1) :: (AR, PySem.W.listOf (vals : List Value).toArray n2) :: (AM, PySem.W.listOf (us : List Value).toArray n3) :: (R, rowO) :: tl ∧
    Args9 (Has g tl) vals as ∧ IntsAre us ams ∧ 0 ≤ at' ∧ at' ≤ 1 + 81 * (i : Int) ∧ ams.length ≤ 40 * i ∧ as.length = i ∧ (∀ k, k ∈ ams ↔ ∃ a ∈ as, k ∈ a.keys) ∧
    (@Ne Nat AM ST ∧ @Ne Nat AM AR ∧ @Ne Nat AM R ∧ @Ne Nat AM I) ∧ (∀ p ∈ tl, p.1 ≠ ST ∧ p.1 ≠ AR ∧ p.1 ≠ AM ∧ p.1 ≠ R ∧ p.1 ≠ I) ∧
    m (Str.ofString "state") = some (.ref ST) ∧ m (Str.ofString "args") = some (.ref AR) ∧ m (Str.ofString "all_met") = some (.ref AM)
section
variable {prog : Program} {w : World} {A : Around} {s : Shared} {E : Value → Shared → Prop} {g : Heap} {m : Str → Option Value}
theorem lawJ_off {ST AR R I : Addr} {rowO : Obj} {i : Nat} {nx : List (Addr × Obj)} (zS : @Ne Nat ST I) (zA : @Ne Nat AR I) (zR : @Ne Nat R I) (j : LawJ g ST AR R I rowO i m nx) : ∀ p ∈ nx, p.1 ≠ I := by
  obtain ⟨AM, at', t, n1, vals, n2, as, us, n3, ams, tl, rfl, _, _, _, _, _, _, _, hM, ht, _⟩ := j
  intro p hp
  rcases List.mem_cons.mp hp with rfl | hp
  · exact zS
  rcases List.mem_cons.mp hp with rfl | hp
  · exact zA
  rcases List.mem_cons.mp hp with rfl | hp
  · exact hM.2.2.2
  rcases List.mem_cons.mp hp with rfl | hp
  · exact zR
  · exact (ht p hp).2.2.2.2
theorem law_loop {env : Env} {x : Str} {body : List Stmt} {Q : Flow → Shared → Prop} {r ST AR AM R : Addr} {rowO : Obj} {n at0 : Int} {t a b t' : Tok} {n1 n2 n3 : Nat} (hh : A.handled = none) (F : Fr g env.locals s.heap m)
    (N : News g env.locals s.heap [(r, rangeT n t a b), (AM, PySem.W.listOf #[] n3), (AR, PySem.W.listOf #[] n2), (ST, stObj R at0 t' n1), (R, rowO)]) (hn : 0 ≤ n) (hn2 : n ≤ 4) (ha0 : 0 ≤ at0) (ha1 : at0 ≤ 1)
    (l3 : AR < AM ∧ ST < AM ∧ R < AM) (hs : m (Str.ofString "state") = some (.ref ST)) (ha : m (Str.ofString "args") = some (.ref AR)) (hm : m (Str.ofString "all_met") = some (.ref AM))
    (turn : ∀ (I : Addr) (i : Nat) (u : Tok) m₁ nx h tk oI, @Ne Nat ST I → @Ne Nat AR I → @Ne Nat R I → (i : Int) < n → oI.cls ≠ .type "tuple" → LawJ g ST AR R I rowO i m₁ nx → Fr g env.locals h (fun y => if y = x then some (.int i u) else m₁ y) → News g env.locals h ((I, oI) :: nx) →
      wpAny (model prog w) A (execs body env) (MPost g env.locals (LawJ g ST AR R I rowO (i + 1)) [(I, oI)] { s with heap := h, toks := tk } Q) E { s with heap := h, toks := tk })
    (done : ∀ I m₁ nx h tk, LawJ g ST AR R I rowO n.toNat m₁ nx → Fr g env.locals h m₁ → News g env.locals h nx → Q .next { s with heap := h, toks := tk }) :
    wpAny (model prog w) A (pyIter (.ref r)) (fun it s₂ => LoopAtV prog w A g env x body Q E it s₂) E s := by
  obtain ⟨I, hI⟩ := size_of F
  have sz := sizes_of N
  rw [← hI] at sz
  have zM : @Ne Nat AM I := Nat.ne_of_lt (sz _ (.tail _ (.head _)))
  have zA : @Ne Nat AR I := Nat.ne_of_lt (sz _ (.tail _ (.tail _ (.head _))))
  have zS : @Ne Nat ST I := Nat.ne_of_lt (sz _ (.tail _ (.tail _ (.tail _ (.head _)))))
  have zR : @Ne Nat R I := Nat.ne_of_lt (sz _ (.tail _ (.tail _ (.tail _ (.tail _ (.head _))))))
  refine for_range (t := t) (a := a) (b := b) (nx₀ := [(ST, stObj R at0 t' n1), (AR, PySem.W.listOf ([] : List Value).toArray n2), (AM, PySem.W.listOf ([] : List Value).toArray n3), (R, rowO)]) (LawJ g ST AR R I rowO) hI hh F (news_sub N ?_) hn (by omega) (fun i m' nx j => lawJ_off zS zA zR j)
    ⟨AM, at0, t', n1, [], n2, [], [], n3, [], [], rfl, .nil, .nil, ha0, by simpa using ha1, Nat.zero_le _, rfl, by simp, ⟨Nat.ne_of_gt l3.2.1, Nat.ne_of_gt l3.1, Nat.ne_of_gt l3.2.2, zM⟩, (fun p hp => nomatch hp), hs, ha, hm⟩
    (fun i u m₁ nx h tk oI => turn I i u m₁ nx h tk oI zS zA zR) (fun m₁ nx h tk => done I m₁ nx h tk)
  intro p hp
  simp only [List.mem_cons, List.not_mem_nil, or_false] at hp ⊢
  rcases hp with rfl | rfl | rfl | rfl | rfl
  · exact .inl rfl
  · exact .inr (.inr (.inr (.inl rfl)))
  · exact .inr (.inr (.inl rfl))
  · exact .inr (.inl rfl)
  · exact .inr (.inr (.inr (.inr rfl)))
end
theorem nameE_L {prog : Program} {w : World} {A : Around} {s : Shared} {E Q : Value → Shared → Prop} {g : Heap} {L : Addr} {m : Str → Option Value} {env : Env} {x : Str} {pos : Pos} {v : Value} (F : Fr g L s.heap m) (hv : m x = some v) (h : Q v s)
    (hL : env.locals = L) (hk : env.scope.kind = .function) (hx : env.kindOf x = some .local) (hd : (x == ("__debug__" : Str)) = false) :
    wpAny (model prog w) A (eval (.Name x pos) env) Q E s := by
  subst hL
  exact wpAny_Name (wpAny_loadName_local hk hx F.ns hv h) hd
theorem expr3 (w : World) (mean : ExcName → Option Value) (mg mb : Str → Option Value) : ExprOk w mean mg mb 3 := expr_step _ _ _ _ 2 (expr_step _ _ _ _ 1 (expr_step _ _ _ _ 0 (expr_zero _ _ _ _)))
section
variable {w : World} {s : Shared} {mean : ExcName → Option Value} {mg mb : Str → Option Value} {Q E : Value → Shared → Prop} {dp un : Nat} {fr : List Env} {gd : Option (List Code)}
  {g : Heap} {L : Addr} {m : Str → Option Value} {ST AR AM R I MET : Addr} {oA oM oI : Obj} {tl : List (Addr × Obj)} {vs : List Value} {ns : List Int} {at' : Int} {t1 : Tok} {n1 n2 n3 : Nat} {t0 : Tok}
theorem expr_L4 (H : ExprOk w mean mg mb 3) (F : Fr g L s.heap m) (N : News g L s.heap ((MET, PySem.W.listOf #[] n2) :: (I, oI) :: (ST, stObj R at' t1 n1) :: (AR, oA) :: (AM, oM) :: (R, PySem.W.listOf vs.toArray n3) :: tl))
    (X : (Mine.hd.heap_39 w.params).In g) (T' : Top Mine.hd.view_39 (looseW Mine.hd.view_39 []) mean mg mb g)
    (cA : oA.cls ≠ .type "tuple") (cM : oM.cls ≠ .type "tuple") (cI : oI.cls ≠ .type "tuple")
    (zSA : @Ne Nat ST AR) (zRS : @Ne Nat R ST) (zMS : @Ne Nat AM ST) (zS : @Ne Nat ST I) (lt : I < MET ∧ ST < MET ∧ AR < MET ∧ AM < MET ∧ R < MET ∧ AllLt MET tl) (hi : IntsAre vs ns)
    (hdp : dp + 143 < recursionLimit) (hun : un + 360 < cLine) (h0 : 0 ≤ at') (h1 : at' ≤ 310) (hl : ns.length ≤ 40)
    (h : ∀ v t at2 t' n1' us' n2' h' tk tl', Fr g L h' m → News g L h' ((ST, stObj R at2 t' n1') :: (MET, PySem.W.listOf us'.toArray n2') :: (AR, oA) :: (AM, oM) :: (R, PySem.W.listOf vs.toArray n3) :: (I, oI) :: tl') →
      (∀ p ∈ tl', p.1 ≠ ST) → (∀ p ∈ tl', p.1 ≠ MET) → (∀ p ∈ tl', p.1 ≠ AR) → (∀ p ∈ tl', p.1 ≠ AM) → (∀ p ∈ tl', p.1 ≠ R) → (∀ p ∈ tl', p.1 ≠ I) →
      (∀ a xs, Has g tl a xs → Has g tl' a xs) → TreeG (Has g tl') v t → (Arg.ex t).Ok → t.keys.length ≤ 40 → at' ≤ at2 → at2 ≤ at' + 80 → IntsAre us' t.keys → Q v { s with heap := h', toks := tk }) :
    wpAny (model PySem.Challenge.rw_on0082_01.row.prog w) (Ard dp un fr gd) (PySem.call (.ref 56) [.ref ST, .int 3 t0, .ref MET]) Q E s := by
  have hc3 : (cst 3 : Int) = 80 := by decide
  have hs3 : sz 3 = 40 := by decide
  have kp : ∀ p ∈ [(AR, oA), (AM, oM), (R, PySem.W.listOf vs.toArray n3), (I, oI)], p ∈ ((MET, PySem.W.listOf (#[] : Array Value) n2) :: (I, oI) :: (ST, stObj R at' t1 n1) :: (AR, oA) :: (AM, oM) :: (R, PySem.W.listOf vs.toArray n3) :: tl) ∧ p.1 ≠ ST ∧ p.1 ≠ MET ∧ p.2.cls ≠ .type "tuple" := by
    intro p hp
    rcases List.mem_cons.mp hp with rfl | hp
    · exact ⟨.tail _ (.tail _ (.tail _ (.head _))), fun e => zSA e.symm, Nat.ne_of_lt lt.2.2.1, cA⟩
    rcases List.mem_cons.mp hp with rfl | hp
    · exact ⟨.tail _ (.tail _ (.tail _ (.tail _ (.head _)))), zMS, Nat.ne_of_lt lt.2.2.2.1, cM⟩
    rcases List.mem_cons.mp hp with rfl | hp
    · exact ⟨.tail _ (.tail _ (.tail _ (.tail _ (.tail _ (.head _))))), zRS, Nat.ne_of_lt lt.2.2.2.2.1, listNeTup⟩
    rw [List.mem_singleton.mp hp]
    exact ⟨.tail _ (.head _), fun e => zS e.symm, Nat.ne_of_lt lt.1, cI⟩
  refine expr_L (d := 3) (us := []) (ms := []) (n2 := n2) [(AR, oA), (AM, oM), (R, PySem.W.listOf vs.toArray n3), (I, oI)] H F N X T' (.tail _ (.tail _ (.head _))) (.head _) kp ⟨_, (N _ (.tail _ (.tail _ (.tail _ (.tail _ (.tail _ (.head _))))))).1, rfl, _, rfl⟩ hi .nil zRS (Nat.ne_of_lt lt.2.2.2.2.1) (Nat.ne_of_gt lt.2.1)
    (by omega) (by omega) h0 (by omega) hl (by simp [hs3]) rfl ?_
  intro v t at2 t' n1' us' n2' h' tk tl' F' N' q k tr z1 z2 z3 z4 z5 z6
  rw [hs3] at z1 z2
  rw [hc3] at z5
  exact h v t at2 t' n1' us' n2' h' tk tl' F' N' (fun p hp => (q p hp).1) (fun p hp => (q p hp).2.1) (fun p hp => (q p hp).2.2 _ (.head _)) (fun p hp => (q p hp).2.2 _ (.tail _ (.head _))) (fun p hp => (q p hp).2.2 _ (.tail _ (.tail _ (.head _)))) (fun p hp => (q p hp).2.2 _ (.tail _ (.tail _ (.tail _ (.head _)))))
    (fun a xs x => k a xs (x.mono fun _ hp => .tail _ (.tail _ (.tail _ (.tail _ (.tail _ (.tail _ hp))))))) tr ⟨by omega, z3⟩ z2 z4 z5 z6
end
section
variable {g : Heap} {L : Addr} {h' : Heap} {m m' : Str → Option Value} {ST AR AM R I D : Addr} {rowO oD oI : Obj} {i : Nat} {at' : Int} {t : Tok} {n1 n2 n3 : Nat} {vals us : List Value} {as : List Arg} {ams : List Int} {tl : List (Addr × Obj)} {a : Arg} {s₁ : Shared} {tk : Nat}
theorem law_simple (F : Fr g L h' m') (N : News g L h' ((D, oD) :: (I, oI) :: (ST, stObj R (at' + 1) t n1) :: (AR, PySem.W.listOf (vals ++ [Value.ref D]).toArray n2) :: (AM, PySem.W.listOf us.toArray n3) :: (R, rowO) :: tl))
    (jA : Args9 (Has g tl) vals as) (jI : IntsAre us ams) (ja0 : 0 ≤ at') (ja1 : at' ≤ 1 + 81 * (i : Int)) (jl : ams.length ≤ 40 * i) (jn : as.length = i) (jk : ∀ k, k ∈ ams ↔ ∃ a ∈ as, k ∈ a.keys)
    (jM : @Ne Nat AM ST ∧ @Ne Nat AM AR ∧ @Ne Nat AM R ∧ @Ne Nat AM I) (jt : ∀ p ∈ tl, p.1 ≠ ST ∧ p.1 ≠ AR ∧ p.1 ≠ AM ∧ p.1 ≠ R ∧ p.1 ≠ I) (lt : I < D ∧ ST < D ∧ AR < D ∧ AM < D ∧ R < D ∧ AllLt D tl)
    (aG : ArgG (Has g ((D, oD) :: tl)) (.ref D) a) (ok : a.Ok) (ak : a.keys = []) (js : m' (Str.ofString "state") = some (.ref ST)) (jr : m' (Str.ofString "args") = some (.ref AR)) (jm : m' (Str.ofString "all_met") = some (.ref AM)) :
    MEnd g L (LawJ g ST AR R I rowO (i + 1)) [(I, oI)] s₁ { s₁ with heap := h', toks := tk } := by
  refine mend (nx := (ST, stObj R (at' + 1) t n1) :: (AR, PySem.W.listOf (vals ++ [Value.ref D]).toArray n2) :: (AM, PySem.W.listOf us.toArray n3) :: (R, rowO) :: (D, oD) :: tl) F N (fun p hp => ?_) (fun p hp => by rw [List.mem_singleton.mp hp]; exact .tail _ (.head _))
    ⟨AM, at' + 1, t, n1, vals ++ [Value.ref D], n2, as ++ [a], us, n3, ams, (D, oD) :: tl, rfl, (jA.mono fun _ _ x => x.mono fun _ hp => .tail _ hp).snoc aG ok, jI, by omega, by omega, by omega, by simp [jn], (fun k => ?_), jM, (fun p hp => ?_), js, jr, jm⟩
  · simp only [List.mem_cons] at hp ⊢
    rcases hp with h | h | h | h | h | h <;> simp [h]
  · rw [jk]; simp [or_and_right, exists_or, ak]
  · rcases List.mem_cons.mp hp with rfl | hp
    · exact ⟨Nat.ne_of_gt lt.2.1, Nat.ne_of_gt lt.2.2.1, Nat.ne_of_gt lt.2.2.2.1, Nat.ne_of_gt lt.2.2.2.2.1, Nat.ne_of_gt lt.1⟩
    · exact jt p hp
end
section
variable {prog : Program} {w : World} {A : Around} {s : Shared} {E : Value → Shared → Prop} {g : Heap} {L : Addr} {m : Str → Option Value} {news : List (Addr × Obj)}
theorem ne_same {a b : Addr} {vs us : List Value} {ns ms : List Int} {Q : Value → Shared → Prop} {n1 n2 : Nat} {news : List (Addr × Obj)} (N : News g L s.heap news) (ha : (a, PySem.W.listOf vs.toArray n1) ∈ news) (hb : (b, PySem.W.listOf us.toArray n2) ∈ news) (hi : IntsAre vs ns) (hi' : IntsAre us ms) (e : ns = ms) (hu : A.units + 64 < cLine)
    (h : Q (.bool false) s) : wpAny (model prog w) A (compareOp .NotEq (.ref a) (.ref b)) Q E s :=
  ne_intsK ⟨_, (N _ ha).1, rfl, _, rfl⟩ hi ⟨_, (N _ hb).1, rfl, _, rfl⟩ hi' hu (by subst e; simpa using h)
theorem eq_same {a b : Addr} {vs us : List Value} {ns ms : List Int} {Q : Value → Shared → Prop} {n1 n2 : Nat} {news : List (Addr × Obj)} (N : News g L s.heap news) (ha : (a, PySem.W.listOf vs.toArray n1) ∈ news) (hb : (b, PySem.W.listOf us.toArray n2) ∈ news) (hi : IntsAre vs ns) (hi' : IntsAre us ms) (e : ns = ms) (hu : A.units + 64 < cLine)
    (h : Q (.bool true) s) : wpAny (model prog w) A (compareOp .Eq (.ref a) (.ref b)) Q E s :=
  eq_intsK ⟨_, (N _ ha).1, rfl, _, rfl⟩ hi ⟨_, (N _ hb).1, rfl, _, rfl⟩ hi' hu (by subst e; simpa using h)
theorem add_L {l b : Addr} {vs ws : List Value} {ns ms : List Int} {n1 n2 : Nat} {Q : Value → Shared → Prop} (F : Fr g L s.heap m) (N : News g L s.heap news) (hl : (l, PySem.W.listOf vs.toArray n1) ∈ news) (hb : (b, PySem.W.listOf ws.toArray n2) ∈ news)
    (hi : IntsAre vs ns) (hj : IntsAre ws ms) (hsz : ns.length + ms.length ≤ 4000)
    (h : ∀ D h', Fr g L h' m → News g L h' ((D, PySem.W.listOf (vs ++ ws).toArray 0) :: news) → (∀ q ∈ news, q.1 < D) → IntsAre (vs ++ ws) (ns ++ ms) → Q (.ref D) { s with heap := h' }) :
    wpAny (model prog w) A (binaryOp .Add (.ref l) (.ref b)) Q E s :=
  add_lists_ints (hsz := by rw [sizeLine_eq]; omega) F N ⟨_, (N _ hl).1, rfl, _, rfl⟩ ⟨_, (N _ hb).1, rfl, _, rfl⟩ hi hj fun h' F' N' J => h _ h' F' N' (sizes_of N) J
theorem drop3 {h : Heap} {a b c : Addr × Obj} (N : News g L h (a :: b :: c :: news)) : News g L h news := news_sub N fun _ hp => .tail _ (.tail _ (.tail _ hp))
end
section
variable {g : Heap} {L : Addr} {h' : Heap} {m m' : Str → Option Value} {ST AR AM R I D B MET : Addr} {rowO oI oM : Obj} {i : Nat} {at' at2 : Int} {t : Tok} {n1 n2 n3 n4 : Nat} {vals us ws : List Value} {as : List Arg} {ams : List Int} {tl tl' : List (Addr × Obj)} {e : Value} {x : T} {s₁ : Shared} {tk n0 : Nat} {t0 : Tok}
theorem law_ex (F : Fr g L h' m') (N : News g L h' ((B, PySem.W.listOf (us ++ ws).toArray n3) :: (D, { cls := .type "tuple", data := .seq #[vs "e" t0, e, .bool false] n0 }) :: (ST, stObj R at2 t n1) :: (MET, oM) :: (AR, PySem.W.listOf (vals ++ [Value.ref D]).toArray n2) :: (AM, PySem.W.listOf us.toArray n4) :: (R, rowO) :: (I, oI) :: tl'))
    (jA : Args9 (Has g tl) vals as) (ja0 : 0 ≤ at') (ja1 : at' ≤ 1 + 81 * (i : Int)) (jl : ams.length ≤ 40 * i) (jn : as.length = i) (jk : ∀ k, k ∈ ams ↔ ∃ a ∈ as, k ∈ a.keys)
    (e1 : at' + 1 ≤ at2) (e2 : at2 ≤ at' + 1 + 80) (k9 : ∀ a xs, Has g tl a xs → Has g tl' a xs) (tr : TreeG (Has g tl') e x) (ok : (Arg.ex x).Ok) (kl : x.keys.length ≤ 40) (J : IntsAre (us ++ ws) (ams ++ x.keys))
    (s1 : ∀ p ∈ tl', p.1 ≠ ST) (s3 : ∀ p ∈ tl', p.1 ≠ AR) (s5 : ∀ p ∈ tl', p.1 ≠ R) (s6 : ∀ p ∈ tl', p.1 ≠ I) (lB : ∀ q ∈ ((D, { cls := .type "tuple", data := .seq #[vs "e" t0, e, .bool false] n0 }) :: (ST, stObj R at2 t n1) :: (MET, oM) :: (AR, PySem.W.listOf (vals ++ [Value.ref D]).toArray n2) :: (AM, PySem.W.listOf us.toArray n4) :: (R, rowO) :: (I, oI) :: tl'), q.1 < B)
    (lD : ST < D ∧ MET < D ∧ AR < D ∧ AM < D ∧ R < D ∧ I < D ∧ AllLt D tl')
    (js : m' (Str.ofString "state") = some (.ref ST)) (jr : m' (Str.ofString "args") = some (.ref AR)) (jm : m' (Str.ofString "all_met") = some (.ref B)) :
    MEnd g L (LawJ g ST AR R I rowO (i + 1)) [(I, oI)] s₁ { s₁ with heap := h', toks := tk } := by
  have bD := lB _ (.head _)
  have bS := lB _ (.tail _ (.head _))
  have bA := lB _ (.tail _ (.tail _ (.tail _ (.head _))))
  have bR := lB _ (.tail _ (.tail _ (.tail _ (.tail _ (.tail _ (.head _))))))
  have bI := lB _ (.tail _ (.tail _ (.tail _ (.tail _ (.tail _ (.tail _ (.head _)))))))
  have bT : ∀ p ∈ tl', p.1 < B := fun p hp => lB p (.tail _ (.tail _ (.tail _ (.tail _ (.tail _ (.tail _ (.tail _ hp)))))))
  dsimp only at bD bS bA bR bI
  refine mend (nx := (ST, stObj R at2 t n1) :: (AR, PySem.W.listOf (vals ++ [Value.ref D]).toArray n2) :: (B, PySem.W.listOf (us ++ ws).toArray n3) :: (R, rowO) :: (D, { cls := .type "tuple", data := .seq #[vs "e" t0, e, .bool false] n0 }) :: tl') F N (fun p hp => ?_) (fun p hp => by rw [List.mem_singleton.mp hp]; simp)
    ⟨B, at2, t, n1, vals ++ [Value.ref D], n2, as ++ [.ex x], us ++ ws, n3, ams ++ x.keys, _, rfl, (jA.mono fun _ _ x => (k9 _ _ x).mono fun _ hp => .tail _ hp).snoc (.ex (.inr ⟨_, .head _, rfl, _, rfl⟩) (tr.mono fun _ _ x => x.mono fun _ hp => .tail _ hp)) ok, J, by omega, by omega, by rw [List.length_append]; omega, by simp [jn], (fun k => ?_), ⟨Nat.ne_of_gt bS, Nat.ne_of_gt bA, Nat.ne_of_gt bR, Nat.ne_of_gt bI⟩, (fun p hp => ?_), js, jr, jm⟩
  · simp only [List.mem_cons] at hp ⊢
    rcases hp with h | h | h | h | h | h <;> simp [h]
  · rw [List.mem_append, jk]; simp [or_and_right, exists_or, Arg.keys]
  · rcases List.mem_cons.mp hp with rfl | hp
    · exact ⟨Nat.ne_of_gt lD.1, Nat.ne_of_gt lD.2.2.1, Nat.ne_of_lt bD, Nat.ne_of_gt lD.2.2.2.2.1, Nat.ne_of_gt lD.2.2.2.2.2.1⟩
    · exact ⟨s1 p hp, s3 p hp, Nat.ne_of_lt (bT p hp), s5 p hp, s6 p hp⟩
end
theorem rising_eq2 {ns ms : List Int} {S : Int → Prop} (p : ns.Pairwise (· < ·)) (q : ms.Pairwise (· < ·)) (a : ∀ k, k ∈ ns ↔ S k) (b : ∀ k, k ∈ ms ↔ S k) : ns = ms := rising_eq p q fun k => (a k).trans (b k).symm
section
variable {prog : Program} {w : World} {A : Around} {s : Shared} {E : Value → Shared → Prop} {g : Heap} {L : Addr} {m : Str → Option Value} {news : List (Addr × Obj)}
theorem sorted_D2 {d : Addr} {o : Obj} {kvs : List (Int × Value)} {S : Int → Prop} {Q : Value → Shared → Prop} (hh : A.handled = none) (F : Fr g L s.heap m) (N : News g L s.heap news) (hm : (d, o) ∈ news) (hd : o.IsDictOf (intKind prog w) kvs) (lo : (d == sysModules) = false) (hl : kvs.length ≤ 60) (hS : ∀ k, k ∈ kvs.map (·.1) ↔ S k)
    (h : ∀ D h' tk us ns e, Fr g L h' m → News g L h' ((D, PySem.W.listOf us.toArray e) :: news) → (∀ q ∈ news, q.1 < D) → IntsAre us ns → ns.Pairwise (· < ·) → (∀ k, k ∈ ns ↔ S k) → Q (.ref D) { s with heap := h', toks := tk }) :
    wpAny (model prog w) A (call (.builtin "sorted") [.ref d]) Q E s :=
  sorted_D hh F N hm hd lo hl fun D h' tk us ns e F' N' a b c q => h D h' tk us ns e F' N' a b c fun k => (q k).trans (hS k)
end
end Mine
end

section
open PySem PySem.W PyProof.Rows PySem.Calls
set_option Elab.async false
set_option maxRecDepth 100000
set_option maxHeartbeats 16000000
namespace Mine
theorem offMLaw : True := by
  w_top off
  trivial
set_option pp.deepTerms false
set_option pp.deepTerms.threshold 8
theorem fill9 : ∀ (P : Params) (h : Heap), (Mine.hd.heap_39 P).In h → PySem.Challenge.rw_on0082_01.Holds → True := by
  k_fill
  intros; trivial
local macro_rules | `(tactic| k_all) => `(tactic| assumption)
local macro_rules | `(tactic| walk_at "call ref") => `(tactic| (k_here; first | (k_dflt (refine' take_K ?F ?N ?X ?T ?U ?r ?i ?n ?d ?u ?h0 ?h1 ?l ?m1 ?m2 ?_; (case F => k_asm); (case N => k_asm); (case X => k_asm); (case T => k_asm); (case U => k_updF); (case r => is_list); (case i => k_asm); (case n => assumption); (case d => first | (dsimp only [Ard]; omega) | exact Nat.le_of_ble_eq_true rfl); (case u => first | (dsimp only [Ard]; omega) | exact Nat.le_of_ble_eq_true rfl); (case h0 => omega); (case h1 => omega); (case l => assumption); (case m1 => omega); (case m2 => omega)); intro r' t' t1' n' h' tk' a' b' F' N'; (try dsimp only at N'); (try k_sweep)) | (k_dflt (refine' reads_L ?F ?N ?X ?T ?m ?t ?d ?u ?k ?_; (case F => k_asm); (case N => k_asm); (case X => k_asm); (case T => k_asm); (case t => assumption); (case m => intro q1 q2; simp only [List.mem_cons, q2, or_true]); (case d => exact Nat.le_of_ble_eq_true rfl); (case u => exact Nat.le_of_ble_eq_true rfl); (case k => assumption)); intro b' u' n' n2' h' tk' F' N' q1' i' p' q'; (try k_sweep)) | (k_dflt (refine' args_L ?F ?N ?X ?T ?a ?t ?m ?d ?u ?S ?_; (case F => k_asm); (case N => k_asm); (case X => k_asm); (case T => k_asm); (case a => k_mem); (case t => assumption); (case S => assumption); (case m => intro q1 q2; simp only [List.mem_cons, q2, or_true]); (case d => exact Nat.le_of_ble_eq_true rfl); (case u => exact Nat.le_of_ble_eq_true rfl)); intro d' o' k' h' tk' F' N' q1' do' lo' le' ka'; (try k_sweep)) | refine hold ?_))
local macro_rules | `(tactic| walk_at "call type:range") => `(tactic| (k_here; k_dflt (refine' range_K ?F ?N ?_; (case F => k_asm); (case N => k_asm)); intro I' a' b' h' tk' F' N' l1' l2'; (try k_sweep)))
local macro_rules | `(tactic| walk_at "exec For Name Call cons nil") => `(tactic| (k_here; (rename Fr _ _ _ _ => lF'); (with_unfolding_all refine' For_invVF lF' ?k1 ?k2 ?_; (case k1 => exact rfl); (case k2 => exact rfl); k_whole)))
local macro_rules | `(tactic| walk_at "pyIter ref") => `(tactic| ((with_reducible show wpAny _ _ (pyIter (Value.ref _)) (fun it s₂ => LoopAtV _ _ _ _ _ _ _ _ _ it s₂) _ _); k_here; refine hold ?_))
local macro_rules | `(tactic| walk_at "eval Name") => `(tactic| (k_here; k_dflt (refine' nameE_L ?F ?v ?_ ?a ?b ?c ?d; (case F => assumption); (case a => exact rfl); (case b => exact rfl); (case c => exact rfl); (case d => decide); (case v => (repeat (first | assumption | exact if_pos rfl | refine Eq.trans (if_neg (by decide)) ?_))); k_whole)))
local macro_rules | `(tactic| walk_at "ite") => `(tactic| (k_here; first | with_reducible refine ite_eqN (by omega) ?_ | with_reducible refine ite_eqP (by omega) ?_ | (with_reducible refine ite_eqS ?_ ?_ <;> intro hc')))
local macro_rules | `(tactic| walk_at "call builtin:list.append") => `(tactic| (k_here; k_dflt (refine' append_V ?F ?N ?U ?l ?_; (case F => k_asm); (case N => k_asm); (case U => k_updF); (case l => omega)); intro h' F' N'; (try dsimp only at N'); (try k_sweep)))
local macro_rules | `(tactic| walk_at "MPost") => `(tactic| dsimp only [MPost])
local macro_rules | `(tactic| walk_at "MEnd") => `(tactic| refine hold ?_)
local macro_rules | `(tactic| walk_at "call type:set cons nil") => `(tactic| (k_here; k_dflt (refine' set_L ?h ?F ?N ?l ?i ?k ?_; (case h => exact rfl); (case F => k_asm); (case N => k_asm); (case l => k_mem); (case i => assumption); (case k => assumption)); intro d' o' h' tk' F' N' q1' so'; (try k_sweep)))
local macro_rules | `(tactic| walk_at "call builtin:sorted") => `(tactic| (k_here; k_dflt (first | (refine' sorted_S ?h ?F ?N ?m ?o ?_; (case h => exact rfl); (case F => k_asm); (case N => k_asm); (case m => k_mem); (case o => assumption)) | (refine' sorted_D2 ?h ?F ?N ?m ?o ?l ?z ?S ?_; (case h => exact rfl); (case F => k_asm); (case N => k_asm); (case m => k_mem); (case o => assumption); (case l => assumption); (case z => assumption); (case S => assumption))); intro D' h' tk' us' ns' e' F' N' l1' i' p' q'; (try k_sweep)))
local macro_rules | `(tactic| walk_at "binaryOp Add ref ref") => `(tactic| (k_here; k_dflt (refine' add_L ?F ?N ?a ?b ?i ?j ?z ?_; (case F => k_asm); (case N => k_asm); (case a => k_mem); (case b => k_mem); (case i => assumption); (case j => assumption); (case z => omega)); intro D' h' F' N' l1' J'; (try k_sweep)))
local macro_rules | `(tactic| walk_at "compareOp NotEq ref ref") => `(tactic| (k_here; (with_reducible show wpAny _ _ (compareOp CmpOp.NotEq (Value.ref _) (Value.ref _)) _ _ _); k_dflt (refine' ne_same ?N ?a ?b ?i ?j ?e ?u ?_; (case N => k_asm); (case a => k_mem); (case b => k_mem); (case i => assumption); (case j => assumption); (case e => refine' rising_eq2 ?ea ?eb ?ec ?ed; (case ea => assumption); (case eb => assumption); (case ec => assumption); (case ed => assumption)); (case u => exact Nat.le_of_ble_eq_true rfl)); refine hold ?_))
local macro_rules | `(tactic| walk_at "compareOp Eq ref ref") => `(tactic| (k_here; (with_reducible show wpAny _ _ (compareOp CmpOp.Eq (Value.ref _) (Value.ref _)) _ _ _); k_dflt (refine' eq_same ?N ?a ?b ?i ?j ?e ?u ?_; (case N => k_asm); (case a => k_mem); (case b => k_mem); (case i => assumption); (case j => assumption); (case e => refine' rising_eq2 ?ea ?eb ?ec ?ed; (case ea => assumption); (case eb => assumption); (case ec => assumption); (case ed => assumption)); (case u => exact Nat.le_of_ble_eq_true rfl))))
theorem law_row : PySem.Challenge.rw_on0082_01.Holds := Mine.hd (by
  k_go0
  k_steps
  unfold Hold
  rename Fr _ _ _ _ => F
  rename News _ _ _ _ => N
  rename IntsAre _ (List.take _ _) => I0
  rename (_ : Addr) < (_ : Addr) => lt1
  rename _ < _ ∧ _ < _ => lt2
  rename _ < _ ∧ _ < _ ∧ _ < _ => lt3
  refine' take_K ?F ?N ?X ?T ?U ?r ?i ?n ?d ?u ?h0 ?h1 ?l ?m1 ?m2 ?_
  case F => k_asm
  case N => k_asm
  case X => k_asm
  case T => k_asm
  case U => k_updF
  case r => is_list
  case i => exact I0
  case n => exact Nat.ne_of_lt (by assumption)
  case d => exact Nat.le_of_ble_eq_true rfl
  case u => exact Nat.le_of_ble_eq_true rfl
  case h0 => decide
  case h1 => decide
  case l => exact Nat.le_trans (Nat.le_of_eq (List.length_take)) (Nat.min_le_left _ _)
  case m1 => decide
  case m2 => decide
  intro r1 tr1 tr2 n1 h1 tk1 b1 b2 F1 N1
  try dsimp only at N1
  clear F N
  k_steps
  rename _ < _ ∧ _ < _ ∧ _ < _ => lt3
  rename _ < _ ∧ _ < _ => lt2
  rename (_ : Addr) < _ => ltI
  rename (∀ (q : Addr × Obj), q ∈ [_, _, _, _] → q.fst < _) => ltA
  rename Fr _ _ _ _ => F6
  rename News _ _ _ _ => N6
  unfold Hold
  have hl40 := take40 I0
  generalize List.take 40 _ = ns0 at I0 hl40
  refine law_loop rfl F6 N6 (by omega) (by omega) (by decide) (by decide) ⟨lt3.1, lt3.2.1, lt3.2.2⟩ (by rfl) (by rfl) (by rfl) ?turn ?done
  case turn =>
    intro I i u m₁ nx h7 tk7 oI zS zA zR hi hcl j F7 N7
    obtain ⟨AM, at', t7, n7, vals, n8, as, us, n9, ams, tl, rfl, jA, jI, ja0, ja1, jl, jn, jk, jM, jt, js, jr, jm⟩ := j
    have zSA : @Ne Nat _ _ := Nat.ne_of_lt lt2.1
    have zRA : @Ne Nat _ _ := Nat.ne_of_lt lt2.2
    have zRS : @Ne Nat _ _ := Nat.ne_of_lt lt1
    clear N6 F6 ltA lt2 lt3 lt1
    have hm1 : (fun y => if y = Str.ofString "go_of" then some (Value.int (i : Int) u) else m₁ y) (Str.ofString "state") = _ := (if_neg (by decide)).trans js
    have hm2 : (fun y => if y = Str.ofString "go_of" then some (Value.int (i : Int) u) else m₁ y) (Str.ofString "args") = _ := (if_neg (by decide)).trans jr
    have hm3 : (fun y => if y = Str.ofString "go_of" then some (Value.int (i : Int) u) else m₁ y) (Str.ofString "all_met") = _ := (if_neg (by decide)).trans jm
    generalize (fun y => if y = Str.ofString "go_of" then some (Value.int (i : Int) u) else m₁ y) = m₂ at F7 hm1 hm2 hm3
    clear js jr jm m₁
    change Fr _ (Array.size (Heap.objs _)) _ _ at F7
    change News _ (Array.size (Heap.objs _)) _ _ at N7
    have tS : ∀ p ∈ tl, p.1 ≠ _ := fun p hp => (jt p hp).1
    have tA : ∀ p ∈ tl, p.1 ≠ _ := fun p hp => (jt p hp).2.1
    have tM : ∀ p ∈ tl, p.1 ≠ AM := fun p hp => (jt p hp).2.2.1
    have tI : ∀ p ∈ tl, p.1 ≠ I := fun p hp => (jt p hp).2.2.2.2
    have zM := jM.2.2.2
    have zMS := jM.1
    have zMA := jM.2.1
    have zMR := jM.2.2.1
    have vl := jA.length
    k_steps
    · unfold Hold
      rename News _ _ _ _ => N8
      rename Fr _ _ _ _ => F8
      rename _ ∧ _ ∧ _ ∧ _ ∧ _ ∧ AllLt _ _ => lt8
      refine law_simple (a := .text) F8 N8 jA jI ja0 ja1 jl jn jk jM jt lt8 (.text (.inr ⟨_, .head _, rfl, _, rfl⟩)) trivial rfl ?_ ?_ ?_
      all_goals repeat (first | assumption | refine Eq.trans (if_neg (by decide)) ?_)
    · unfold Hold
      rename News _ _ _ _ => N8
      rename Fr _ _ _ _ => F8
      rename _ ∧ _ ∧ _ ∧ _ ∧ _ ∧ AllLt _ _ => lt8
      refine law_simple (a := .none) F8 N8 jA jI ja0 ja1 jl jn jk jM jt lt8 (.none (.inr ⟨_, .head _, rfl, _, rfl⟩)) trivial rfl ?_ ?_ ?_
      all_goals repeat (first | assumption | refine Eq.trans (if_neg (by decide)) ?_)
    · unfold Hold
      rename News _ _ _ _ => N8
      rename Fr _ _ _ _ => F8
      rename _ ∧ _ ∧ _ ∧ _ ∧ _ ∧ AllLt _ _ => lt8
      refine law_simple (a := .mem) F8 N8 jA jI ja0 ja1 jl jn jk jM jt lt8 (.mem (.inr ⟨_, .head _, rfl, _, rfl⟩)) trivial rfl ?_ ?_ ?_
      all_goals repeat (first | assumption | refine Eq.trans (if_neg (by decide)) ?_)
    · unfold Hold
      rename News _ _ _ _ => N8
      rename Fr _ _ _ _ => F8
      rename _ ∧ _ ∧ _ ∧ _ ∧ _ ∧ AllLt _ _ => lt8
      refine' expr_L4 (expr3 _ _ _ _) F8 N8 ?X ?T listNeTup listNeTup hcl zSA zRS zMS zS lt8 I0 ?d ?u ?h0 ?h1 hl40 ?_
      case X => k_asm
      case T => k_asm
      case d => exact Nat.le_of_ble_eq_true rfl
      case u => exact Nat.le_of_ble_eq_true rfl
      case h0 => omega
      case h1 => omega
      intro v9 t9 at9 tk9 n9' us9 m9 h9 tk9' tl9 F9 N9 s1 s2 s3 s4 s5 s6 hs9 tr9 ok9 kl9 e1 e2 I9
      clear N8 F8
      have kk9 := ok9.2
      have zMETA : @Ne Nat _ _ := Nat.ne_of_lt lt8.2.2.1
      have zMETS : @Ne Nat _ _ := Nat.ne_of_lt lt8.2.1
      have zMETM : @Ne Nat _ _ := Nat.ne_of_lt lt8.2.2.2.1
      k_steps
      unfold Hold
      rename News _ _ _ _ => N8
      have N10 := drop3 N8
      clear N8
      k_steps
      unfold Hold
      rename News _ _ _ _ => N8
      rename Fr _ _ _ _ => F8
      rename IntsAre (_ ++ _) _ => J8
      rename _ ∧ _ ∧ _ ∧ _ ∧ _ ∧ _ ∧ AllLt _ _ => lt9
      refine law_ex F8 N8 jA ja0 ja1 jl jn jk e1 e2 hs9 tr9 ok9 kl9 J8 s1 s3 s5 s6 (by assumption) lt9 ?_ ?_ ?_
      all_goals repeat (first | assumption | exact if_pos rfl | refine Eq.trans (if_neg (by decide)) ?_)
  case done =>
    intro I m₁ nx h7 tk7 j F7 N7
    obtain ⟨AM, at', t7, n7, vals, n8, as, us, n9, ams, tl, rfl, jA, jI, ja0, ja1, jl, jn, jk, jM, jt, js, jr, jm⟩ := j
    clear N6 F6 ltA lt2 lt3 lt1
    change Fr _ (Array.size (Heap.objs _)) _ _ at F7
    change News _ (Array.size (Heap.objs _)) _ _ at N7
    have kk : ∀ k ∈ ams, KeyOk k := fun k hk => by
      obtain ⟨a, ha, hka⟩ := (jk k).mp hk
      exact jA.ok a ha k hka
    k_steps)
end Mine
end

set_option maxRecDepth 100000 in
theorem PySem.Challenge.cw_on0082_01_holds : PySem.Challenge.rw_on0082_01.Holds := by
  exact Mine.law_row
