import PyProof.Rows.All
import Wide.All
import OpenK.AllK
import Wide.FinOn
import PySem.Challenge.RW_pb0191_01

set_option compiler.extract_closed false
open PySem PySem.W PyProof.Rows
set_option Elab.async false
set_option maxRecDepth 100000
set_option maxHeartbeats 8000000
namespace Mine
local macro_rules | `(tactic| refine $f:ident $args*) => do
  if f.getId.eraseMacroScopes != `PySem.W.holds_open then Lean.Macro.throwUnsupported
  let l ← `(And.left h)
  let r ← `(And.right h)
  let args' := args.map fun a =>
    if a.raw.getKind == `Lean.Parser.Term.syntheticHole then
      (if a.raw[1].getId.eraseMacroScopes == `hl then ⟨l.raw⟩ else if a.raw[1].getId.eraseMacroScopes == `hc then ⟨r.raw⟩ else a)
    else a
  `(tactic| refine (fun (h : _ ∧ _) => $f $args'*) ?hc)
open_top hd for PySem.Challenge.rw_pb0191_01
def Part {a b c : Prop} (f : a ∧ b → c) : Prop := b
end Mine
theorem Mine.anew_Hd2 : True := by
  w_top off
  first | (walk1; done) | trivial

open PySem PySem.W PySem.Spec PySem.Calls PyProof.Rows PyProof.V
set_option Elab.async false
set_option maxRecDepth 100000
set_option maxHeartbeats 8000000
namespace Mine

structure Cx (w : World) (A₀ : Around) (base h₀ : Heap) (outer : List Env) (L : Addr)
    (m mg mb : Str → Option Value) (mean : ExcName → Option Value) (news : List (Addr × Obj))
    (s : Shared) (cs : Scope) (dp un n : Nat) : Prop where
  B : Below A₀ base outer h₀
  F : Fr h₀ L s.heap m
  X : (hd.heap_39 w.params).In h₀
  N : News h₀ L s.heap news
  T : Top hd.view_39 (looseW hd.view_39 []) mean mg mb h₀
  hk : cs.kind = .function
  hd : dp + n < recursionLimit
  hu : un + 8 * n < cLine

theorem flat_int {v : Value} {i : Int} (h : Flat v (.int i)) : ∃ t, v = .int i t := by
  have := h default
  cases this
  exact ⟨_, rfl⟩

theorem allLt_mem {d : Addr} : ∀ {l : List (Addr × Obj)}, AllLt d l → ∀ p ∈ l, p.1 < d
  | [], _, p, hp => nomatch hp
  | (a, o) :: l, h, p, hp => by
    rcases List.mem_cons.1 hp with rfl | hp
    · exact h.1
    · exact allLt_mem h.2 p hp

def CdAt (w : World) (news : List (Addr × Obj)) (x : Addr) (f : Int → Int) : Prop :=
  ∃ (ds dd : Addr) (hsh : Int) (kt : Tok) (n : Nat) (od : Obj) (kvs : List (Int × Value)) (D : List (PyData × PyData)),
    (x, instObj 286 ds) ∈ news ∧ (ds, dictOf [⟨hsh, .str "classes" kt, .ref dd⟩] n) ∈ news ∧ (dd, od) ∈ news ∧
    (dd == sysModules) = false ∧
    od.IsDictOf (intKind PySem.Challenge.rw_pb0191_01.row.prog w) kvs ∧ FlatPairs PyData.int kvs D ∧
    ∀ g, (lookup (.int g) D).getD (.int 0) = .int (f g)

def InAt (news : List (Addr × Obj)) (x : Addr) (g : Int) (k : Str) : Prop :=
  ∃ (di : Addr) (es : List DictEntry) (n : Nat) (tg tk tm : Tok),
    (x, instObj 186 di) ∈ news ∧ (di, dictOf es n) ∈ news ∧
    getL "glyph" es = some (some (.int g tg)) ∧ getL "kind" es = some (some (.str k tk)) ∧
    getL "mask" es = some (some (.int 1 tm))

section
variable {w : World} {dp un : Nat} {gd : Option (List Code)} {cn : Str} {cs : Scope} {a : Addr} {ccd : Value}
  {cl : List (Str × Addr)} {outer : List Env} {A₀ : Around} {base h₀ : Heap} {L : Addr}
  {m mg mb : Str → Option Value} {mean : ExcName → Option Value} {news : List (Addr × Obj)} {s : Shared}
  {Q E : Value → Shared → Prop}

theorem class_of_spec {sf : Addr} {g : Int} {tg : Tok} {f : Int → Int}
    (C : Cx w A₀ base h₀ outer L m mg mb mean news s cs dp un 2) (hc : CdAt w news sf f)
    (ret : ∀ t h' tk', Fr h₀ L h' m → News h₀ L h' news → Q (.int (f g) t) { s with heap := h', toks := tk' }) :
    wpAny (model PySem.Challenge.rw_pb0191_01.row.prog w) (ktrTop dp un gd cn cs L a ccd cl outer)
      (call (.ref 264) [.ref sf, .int g tg]) Q E s := by
  obtain ⟨B, F, X, N, T, hk, hd, hu⟩ := C
  obtain ⟨ds, dd, hsh, kt, n, od, kvs, D, h1, h2, h3, lo, hdi, hf, hl⟩ := hc
  revert X; k_fill; intro X
  refine wpAny_call ?_
  k_dflt ktr_enter
  k_steps
  rename Flat _ _ => hv
  rw [hl] at hv
  obtain ⟨t, rfl⟩ := flat_int hv
  exact ret _ _ _ (by assumption) (by assumption)

local macro_rules | `(tactic| tb_start) => `(tactic| (
  refine' Cx.mk ?cxB ?cxF ?cxX ?cxN ?cxT ?cxk ?cxd ?cxu
  (case cxB => k_asm); (case cxF => k_asm); (case cxX => k_asm); (case cxN => k_asm); (case cxT => k_asm)
  (case cxk => first | exact rfl | assumption); (case cxd => ktr_room); (case cxu => ktr_units)))

local macro_rules | `(tactic| walk_at "call ref") => `(tactic| (
  k_here
  (with_reducible show wpAny _ _ (call (Value.ref 264) _) _ _ _)
  k_dflt (refine' class_of_spec ?cC ?ch ?_; (case cC => tb_start); (case ch => k_asm); k_whole
          intro t' h' tk' F' N'; (try dsimp only); (try k_fold))))

def gcl (f : Int → Int) (g : Int) : Int := if 1 ≤ f g ∧ f g ≤ 4 then f g else 0

def GdAt (w : World) (news : List (Addr × Obj)) (x : Addr) (f : Int → Int) : Prop :=
  ∃ (ds cd : Addr) (h1 h2 h3 h4 h5 : Int) (k1 k2 k3 k4 k5 : Tok) (v2 v3 v4 v5 : Value) (n : Nat),
    (x, instObj 334 ds) ∈ news ∧
    (ds, dictOf [⟨h1, .str "classes" k1, .ref cd⟩, ⟨h2, .str "attach" k2, v2⟩, ⟨h3, .str "sets" k3, v3⟩,
      ⟨h4, .str "points" k4, v4⟩, ⟨h5, .str "carets" k5, v5⟩] n) ∈ news ∧
    CdAt w news cd f

local macro_rules | `(tactic| row_tight) => `(tactic| first
  | assumption
  | exact kst_newsOf (by assumption) (by intro p hp; simp only [List.mem_cons, hp, or_true, true_or]))

theorem glyph_class_spec {sf : Addr} {g : Int} {tg : Tok} {f : Int → Int}
    (C : Cx w A₀ base h₀ outer L m mg mb mean news s cs dp un 4) (hc : GdAt w news sf f)
    (ret : ∀ r t h' tk', r = gcl f g → Fr h₀ L h' m → News h₀ L h' news → Q (.int r t) { s with heap := h', toks := tk' }) :
    wpAny (model PySem.Challenge.rw_pb0191_01.row.prog w) (ktrTop dp un gd cn cs L a ccd cl outer)
      (call (.ref 312) [.ref sf, .int g tg]) Q E s := by
  obtain ⟨B, F, X, N, T, hk, hd, hu⟩ := C
  obtain ⟨ds, cd, h1, h2, h3, h4, h5, k1, k2, k3, k4, k5, v2, v3, v4, v5, n, i1, i2, i3⟩ := hc
  obtain ⟨_, _, _, _, _, _, _, _, c1, c2, -⟩ := id i3
  revert X; k_fill; intro X
  refine wpAny_call ?_
  k_dflt ktr_enter
  k_steps
  all_goals exact ret _ _ _ _ (by unfold gcl; split <;> omega) (by assumption) (by row_tight)

local macro_rules | `(tactic| walk_at "call ref") => `(tactic| (
  k_here
  (with_reducible show wpAny _ _ (call (Value.ref 312) _) _ _ _)
  k_dflt (refine' glyph_class_spec ?cC ?ch ?_; (case cC => tb_start); (case ch => k_asm); k_whole
          intro r t' h' tk' er' F' N'; (try dsimp only); (try k_fold))))

def cbit (n : Int) : Int := if n = 1 then 2 else if n = 2 then 4 else if n = 3 then 8 else 0

theorem class_bit_spec {n : Int} {tg : Tok}
    (C : Cx w A₀ base h₀ outer L m mg mb mean news s cs dp un 2)
    (ret : ∀ r t h' tk', r = cbit n → Fr h₀ L h' m → News h₀ L h' news → Q (.int r t) { s with heap := h', toks := tk' }) :
    wpAny (model PySem.Challenge.rw_pb0191_01.row.prog w) (ktrTop dp un gd cn cs L a ccd cl outer)
      (call (.ref 83) [.int n tg]) Q E s := by
  obtain ⟨B, F, X, N, T, hk, hd, hu⟩ := C
  revert X; k_fill; intro X
  refine wpAny_call ?_
  k_dflt ktr_enter
  k_steps
  all_goals exact ret _ _ _ _ (by unfold cbit; repeat' split <;> omega) (by assumption) (by row_tight)

local macro_rules | `(tactic| walk_at "call ref") => `(tactic| (
  k_here
  (with_reducible show wpAny _ _ (call (Value.ref 83) _) _ _ _)
  k_dflt (refine' class_bit_spec ?cC ?_; (case cC => tb_start); k_whole
          intro r t' h' tk' er' F' N'; (try dsimp only); (try k_fold))))

def LkAt (news : List (Addr × Obj)) (x : Addr) (flag : Int) : Prop :=
  ∃ (ds : Addr) (h1 h2 h3 h4 : Int) (k1 k2 k3 k4 t : Tok) (v1 v3 v4 : Value) (n : Nat),
    (x, instObj 43 ds) ∈ news ∧
    (ds, dictOf [⟨h1, .str "kind" k1, v1⟩, ⟨h2, .str "flag" k2, .int flag t⟩, ⟨h3, .str "mark_set" k3, v3⟩,
      ⟨h4, .str "tables" k4, v4⟩] n) ∈ news

def ign (flag n : Int) : Bool := (flag == 2 && n == 1) || (flag == 4 && n == 2) || (flag == 8 && n == 3)

theorem attach_wanted_spec {n : Int} {tg : Tok} (hn : 0 ≤ n ∧ n ≤ 8)
    (C : Cx w A₀ base h₀ outer L m mg mb mean news s cs dp un 2)
    (ret : ∀ r t h' tk', r = 0 → Fr h₀ L h' m → News h₀ L h' news → Q (.int r t) { s with heap := h', toks := tk' }) :
    wpAny (model PySem.Challenge.rw_pb0191_01.row.prog w) (ktrTop dp un gd cn cs L a ccd cl outer)
      (call (.ref 76) [.int n tg]) Q E s := by
  obtain ⟨B, F, X, N, T, hk, hd, hu⟩ := C
  revert X; k_fill; intro X
  refine wpAny_call ?_
  k_dflt ktr_enter
  k_steps
  all_goals exact ret _ _ _ _ (by
    rw [Int.fdiv_eq_ediv_of_nonneg _ (by omega), Int.fmod_eq_emod_of_nonneg _ (by omega)]; omega) (by assumption) (by row_tight)

local macro_rules | `(tactic| walk_at "call ref") => `(tactic| (
  k_here
  (with_reducible show wpAny _ _ (call (Value.ref 76) _) _ _ _)
  k_dflt (refine' attach_wanted_spec ?ch ?cC ?_; (case ch => omega); (case cC => tb_start); k_whole
          intro r t' h' tk' er' F' N'; (try dsimp only); (try k_fold))))

theorem ign_eq {flag n : Int} (hf : flag = 0 ∨ flag = 2 ∨ flag = 4 ∨ flag = 8) :
    ign flag n = decide (Builtin.bitAnd flag (cbit n) ≠ 0) := by
  unfold ign cbit
  rcases hf with rfl | rfl | rfl | rfl
  all_goals
    by_cases h1 : n = 1
    · subst h1; decide
    by_cases h2 : n = 2
    · subst h2; decide
    by_cases h3 : n = 3
    · subst h3; decide
    rw [if_neg h1, if_neg h2, if_neg h3]
    rw [show (n == 1) = false from by simp [h1], show (n == 2) = false from by simp [h2], show (n == 3) = false from by simp [h3]]
    decide

theorem is_ignored_spec {gd₁ lk : Addr} {g flag : Int} {tg : Tok} {f : Int → Int}
    (C : Cx w A₀ base h₀ outer L m mg mb mean news s cs dp un 6) (hc : GdAt w news gd₁ f) (hl : LkAt news lk flag)
    (hf : flag = 0 ∨ flag = 2 ∨ flag = 4 ∨ flag = 8)
    (ret : ∀ r h' tk', r = ign flag (gcl f g) → Fr h₀ L h' m → News h₀ L h' news → Q (.bool r) { s with heap := h', toks := tk' }) :
    wpAny (model PySem.Challenge.rw_pb0191_01.row.prog w) (ktrTop dp un gd cn cs L a ccd cl outer)
      (call (.ref 90) [.ref gd₁, .ref lk, .int g tg]) Q E s := by
  obtain ⟨B, F, X, N, T, hk, hd, hu⟩ := C
  obtain ⟨_, _, _, _, _, _, _, _, _, _, _, _, _, _, _, _, _, i1, i2, i3⟩ := id hc
  obtain ⟨ds, h1, h2, h3, h4, k1, k2, k3, k4, t, v1, v3, v4, n, j1, j2⟩ := hl
  revert X; k_fill; intro X
  refine wpAny_call ?_
  k_dflt ktr_enter
  k_steps
  all_goals
    rename _ = gcl _ _ => e1
    rename _ = cbit _ => e2
    first
    | (exfalso
       have e : Builtin.bitAnd flag 16 = 0 := by rcases hf with rfl | rfl | rfl | rfl <;> decide
       exact absurd e (by assumption))
    | exact ret _ _ _ (by
        rw [ign_eq hf, ← e1, ← e2]
        first
        | exact (decide_eq_true (by assumption)).symm
        | exact (decide_eq_false (fun h => h (by assumption))).symm
        | (rw [decide_eq_false (by omega)]; exact (decide_eq_false (fun h => h (by assumption))).symm)) (by assumption) (by row_tight)

end
end Mine
theorem Mine.anew_B1 : True := by
  w_top off
  first | (walk1; done) | trivial

open PySem PySem.W PySem.Spec PySem.Calls PyProof.Rows PyProof.V
set_option Elab.async false
set_option maxRecDepth 100000
set_option maxHeartbeats 8000000
namespace Mine

local macro_rules | `(tactic| tb_start) => `(tactic| (
  refine' Cx.mk ?cxB ?cxF ?cxX ?cxN ?cxT ?cxk ?cxd ?cxu
  (case cxB => k_asm); (case cxF => k_asm); (case cxX => k_asm); (case cxN => k_asm); (case cxT => k_asm)
  (case cxk => first | exact rfl | assumption); (case cxd => ktr_room); (case cxu => ktr_units)))
local macro_rules | `(tactic| row_tight) => `(tactic| first
  | assumption
  | exact kst_newsOf (by assumption) (by intro p hp; simp only [List.mem_cons, hp, or_true, true_or]))

def Here (p : Prop) : Prop := p
theorem Here.off {p : Prop} (h : Here p) : p := h
theorem Here.on {p : Prop} (h : p) : Here p := h

def d0 : Int × Str := (0, Str.empty)

def RowAt (news : List (Addr × Obj)) (rl : Addr) (rows : List (Int × Str)) : Prop :=
  ∃ (its : Array Value) (n : Nat), (rl, listOf its n) ∈ news ∧ its.size = rows.length ∧
    ∀ i, i < rows.length → ∃ x, its[i]? = some (.ref x) ∧ InAt news x (rows.getD i d0).1 (rows.getD i d0).2

def BufAt (news : List (Addr × Obj)) (b : Addr) (rows : List (Int × Str)) : Prop :=
  ∃ (ds rl : Addr) (h1 h2 h3 h4 : Int) (k1 k2 k3 k4 : Tok) (v2 v3 v4 : Value) (n : Nat),
    (b, instObj 239 ds) ∈ news ∧
    (ds, dictOf [⟨h1, .str "row" k1, .ref rl⟩, ⟨h2, .str "is_backward" k2, v2⟩, ⟨h3, .str "last_lig" k3, v3⟩,
      ⟨h4, .str "last_split" k4, v4⟩] n) ∈ news ∧ RowAt news rl rows

def ScAt (w : World) (news : List (Addr × Obj)) (sc : Addr) (flag : Int) (f : Int → Int) (rows : List (Int × Str)) : Prop :=
  ∃ (ds b g lk : Addr) (h1 h2 h3 h4 h5 h6 h7 : Int) (k1 k2 k3 k4 k5 k6 k7 t : Tok) (v3 v6 v7 : Value) (n : Nat),
    (sc, instObj 65 ds) ∈ news ∧
    (ds, dictOf [⟨h1, .str "buffer" k1, .ref b⟩, ⟨h2, .str "gdef" k2, .ref g⟩, ⟨h3, .str "lookups" k3, v3⟩,
      ⟨h4, .str "lookup" k4, .ref lk⟩, ⟨h5, .str "mask" k5, .int 1 t⟩, ⟨h6, .str "depth" k6, v6⟩, ⟨h7, .str "steps" k7, v7⟩] n) ∈ news ∧
    BufAt news b rows ∧ GdAt w news g f ∧ LkAt news lk flag

section
variable {w : World} {dp un : Nat} {gd : Option (List Code)} {cn : Str} {cs : Scope} {a : Addr} {ccd : Value}
  {cl : List (Str × Addr)} {outer : List Env} {A₀ : Around} {base h₀ : Heap} {L : Addr}
  {m mg mb : Str → Option Value} {mean : ExcName → Option Value} {news : List (Addr × Obj)} {s : Shared}
  {Q E : Value → Shared → Prop}

theorem item_row {A : Around} {prog : Program} {value slice : PySem.Expr} {rl : Addr} {rows : List (Int × Str)} {k : Int} {u : Tok}
    (N : News h₀ L s.heap news) (hr : RowAt news rl rows) (h0 : 0 ≤ k) (h1 : k < rows.length) (hfit : k < 2 ^ 63)
    (h : ∀ x di es n tg tk tm, (x, instObj 186 di) ∈ news → (di, dictOf es n) ∈ news →
      getL "glyph" es = some (some (.int (rows.getD k.toNat d0).1 tg)) → getL "kind" es = some (some (.str (rows.getD k.toNat d0).2 tk)) →
      getL "mask" es = some (some (.int 1 tm)) → Q (.ref x) s)
    (hs : subscripted slice false (.ref rl) (.int k u) = operate [.ref rl, .int k u] (getItem (.ref rl) (.int k u)) := by with_unfolding_all rfl) :
    wpAny (model prog w) A (subscriptTail value slice (.ref rl) (.int k u)) Q E s := by
  obtain ⟨its, n, hm, hl, hi⟩ := hr
  obtain ⟨x, hx, di, es, n', tg, tk, tm, a1, a2, a3, a4, a5⟩ := hi k.toNat (by omega)
  have hL := News.isList (n := n) N hm
  exact tail_any hL.typeIs slot_list_getitem.lookup (wpAny_getItem_list hL h0 hfit hx (h x di es n' tg tk tm a1 a2 a3 a4 a5)) hs

theorem len_row {A : Around} {prog : Program} {rl : Addr} {rows : List (Int × Str)}
    (N : News h₀ L s.heap news) (hr : RowAt news rl rows) (hfit : (rows.length : Int) < 2 ^ 62)
    (h : Q (.int rows.length (s.toks + 1)) { s with toks := s.toks + 1 + 1 }) :
    wpAny (model prog w) A (call (.builtin "len") [.ref rl]) Q E s := by
  obtain ⟨its, n, hm, hl, hi⟩ := hr
  refine Calls.call_len_list (News.isList (n := n) N hm) (by omega) ?_
  rw [hl]; exact h

local macro_rules | `(tactic| k_get) => `(tactic| with_reducible assumption)
local macro_rules | `(tactic| walk_at "subscriptTail") => `(tactic| (
  k_here
  (with_reducible show wpAny _ _ (subscriptTail _ _ (Value.ref _) (Value.int _ _)) _ _ _)
  k_dflt (refine' item_row ?k1 ?k2 ?k3 ?k4 ?k5 ?_ ?k6; (case k1 => k_asm); (case k2 => with_reducible assumption); (case k3 => omega); (case k4 => omega); (case k5 => omega); (case k6 => with_unfolding_all rfl); k_whole
          intro x' di' es' n' tg' tk' tm' i1' i2' i3' i4' i5'; (try dsimp only); (try k_fold))))
local macro_rules | `(tactic| walk_at "call builtin:len") => `(tactic| (
  k_here
  (with_reducible show wpAny _ _ (call (Value.builtin _) [Value.ref _]) _ _ _)
  k_dflt (refine' len_row ?k1 ?k2 ?k3 ?_; (case k1 => k_asm); (case k2 => with_reducible assumption); (case k3 => omega); k_whole)))
local macro_rules | `(tactic| walk_at "call ref") => `(tactic| (
  k_here
  (with_reducible show wpAny _ _ (call (Value.ref 90) _) _ _ _)
  k_dflt (refine' is_ignored_spec ?cC ?ch ?cl ?cf ?_; (case cC => tb_start); (case ch => k_asm); (case cl => k_asm); (case cf => k_asm); k_whole
          intro r h' tk' er' F' N'; (try dsimp only); (try k_fold))))

def getg (rows : List (Int × Str)) (i : Int) : Int := (rows.getD i.toNat d0).1
def getk (rows : List (Int × Str)) (i : Int) : Str := (rows.getD i.toNat d0).2

theorem passes_spec {sc : Addr} {flag at' : Int} {tg : Tok} {f : Int → Int} {rows : List (Int × Str)}
    (C : Cx w A₀ base h₀ outer L m mg mb mean news s cs dp un 8) (hs : ScAt w news sc flag f rows)
    (hf : flag = 0 ∨ flag = 2 ∨ flag = 4 ∨ flag = 8) (h0 : 0 ≤ at') (h1 : at' < rows.length) (h2 : (rows.length : Int) < 2 ^ 62)
    (ret : ∀ r h' tk', r = ign flag (gcl f (getg rows at')) → Fr h₀ L h' m → News h₀ L h' news → Q (.bool r) { s with heap := h', toks := tk' }) :
    wpAny (model PySem.Challenge.rw_pb0191_01.row.prog w) (ktrTop dp un gd cn cs L a ccd cl outer)
      (call (.ref 97) [.ref sc, .int at' tg]) Q E s := by
  obtain ⟨B, F, X, N, T, hk, hd, hu⟩ := C
  obtain ⟨ds, b, g, lk, _, _, _, _, _, _, _, _, _, _, _, _, _, _, _, _, _, _, _, i1, i2, i3, i4, i5⟩ := hs
  obtain ⟨_, _, _, _, _, _, _, _, _, _, _, _, _, _, j1, j2, j3⟩ := id i3
  revert X; k_fill; intro X
  refine wpAny_call ?_
  k_dflt ktr_enter
  k_steps
  all_goals exact ret _ _ _ (by assumption) (by assumption) (by row_tight)

local macro_rules | `(tactic| walk_at "call ref") => `(tactic| (
  k_here
  (with_reducible show wpAny _ _ (call (Value.ref 97) _) _ _ _)
  k_dflt (refine' passes_spec ?cC ?ch ?cf ?c0 ?c1 ?c2 ?_; (case cC => tb_start); (case ch => k_asm); (case cf => k_asm); (case c0 => omega); (case c1 => omega); (case c2 => omega); k_whole
          intro r h' tk' er' F' N'; (try dsimp only); (try k_fold))))
local macro_rules | `(tactic| walk_at "call ref") => `(tactic| (
  k_here
  (with_reducible show wpAny _ _ (call (Value.ref 264) _) _ _ _)
  k_dflt (refine' class_of_spec ?cC ?ch ?_; (case cC => tb_start); (case ch => k_asm); k_whole
          intro t' h' tk' F' N'; (try dsimp only); (try k_fold))))

abbrev tupObj (vs : List Value) (n : Nat) : Obj := { cls := .type "tuple", data := .seq vs.toArray n }

def TestAt (w : World) (news : List (Addr × Obj)) (x : Addr) (p : Int → Bool) : Prop :=
  (∃ (g : Int) (t t' : Tok) (n : Nat), (x, tupObj [.str "glyph" t, .int g t'] n) ∈ news ∧ ∀ i, p i = decide (g = i)) ∨
  (∃ (k : Int) (cd : Addr) (f : Int → Int) (t t' : Tok) (n : Nat), (x, tupObj [.str "class" t, .ref cd, .int k t'] n) ∈ news ∧
    CdAt w news cd f ∧ ∀ i, p i = decide (f i = k))

theorem fits_spec {x : Addr} {g : Int} {tg : Tok} {p : Int → Bool}
    (C : Cx w A₀ base h₀ outer L m mg mb mean news s cs dp un 4) (ht : TestAt w news x p)
    (ret : ∀ r h' tk', r = p g → Fr h₀ L h' m → News h₀ L h' news → Q (.bool r) { s with heap := h', toks := tk' }) :
    wpAny (model PySem.Challenge.rw_pb0191_01.row.prog w) (ktrTop dp un gd cn cs L a ccd cl outer)
      (call (.ref 106) [.ref x, .int g tg]) Q E s := by
  obtain ⟨B, F, X, N, T, hk, hd, hu⟩ := C
  revert X; k_fill; intro X
  rcases ht with ⟨g₁, t, t', n, i1, i2⟩ | ⟨k, cd, f, t, t', n, i1, i3, i2⟩
  · refine wpAny_call ?_
    k_dflt ktr_enter
    k_steps
    all_goals exact ret _ _ _ (by rw [i2]; rfl) (by assumption) (by row_tight)
  · obtain ⟨_, _, _, _, _, _, _, _, c1, c2, -⟩ := id i3
    refine wpAny_call ?_
    k_dflt ktr_enter
    k_steps
    all_goals exact ret _ _ _ (by rw [i2]; rfl) (by assumption) (by row_tight)

local macro_rules | `(tactic| walk_at "call ref") => `(tactic| (
  k_here
  (with_reducible show wpAny _ _ (call (Value.ref 106) _) _ _ _)
  k_dflt (refine' fits_spec ?cC ?ch ?_; (case cC => tb_start); (case ch => k_asm); k_whole
          intro r h' tk' er' F' N'; (try dsimp only); (try k_fold))))

theorem is_borne_spec {sc x di : Addr} {flag : Int} {f : Int → Int} {rows : List (Int × Str)} {es : List DictEntry} {n : Nat} {tm : Tok}
    (C : Cx w A₀ base h₀ outer L m mg mb mean news s cs dp un 2) (hs : ScAt w news sc flag f rows)
    (h1 : (x, instObj 186 di) ∈ news) (h2 : (di, dictOf es n) ∈ news) (h3 : getL "mask" es = some (some (.int 1 tm)))
    (ret : ∀ r h' tk', r = true → Fr h₀ L h' m → News h₀ L h' news → Q (.bool r) { s with heap := h', toks := tk' }) :
    wpAny (model PySem.Challenge.rw_pb0191_01.row.prog w) (ktrTop dp un gd cn cs L a ccd cl outer)
      (call (.ref 113) [.ref sc, .ref x]) Q E s := by
  obtain ⟨B, F, X, N, T, hk, hd, hu⟩ := C
  obtain ⟨ds, b, g, lk, _, _, _, _, _, _, _, _, _, _, _, _, _, _, _, _, _, _, _, i1, i2, i3, i4, i5⟩ := hs
  revert X; k_fill; intro X
  refine wpAny_call ?_
  k_dflt ktr_enter
  k_steps
  all_goals exact ret _ _ _ (by rfl) (by assumption) (by row_tight)

local macro_rules | `(tactic| walk_at "call ref") => `(tactic| (
  k_here
  (with_reducible show wpAny _ _ (call (Value.ref 113) _) _ _ _)
  k_dflt (refine' is_borne_spec ?cC ?ch ?c1 ?c2 ?c3 ?_; (case cC => tb_start); (case ch => k_asm); (case c1 => k_mem); (case c2 => k_mem); (case c3 => with_reducible assumption); k_whole
          intro r h' tk' er' F' N'; (try subst er'); (try dsimp only); (try k_fold))))

/-- the kinds around -/
def kar (k : Str) : Bool := [Str.ofString "zwj", Str.ofString "zwnj", Str.ofString "hidden"].any (· == k)

def scan (rows : List (Int × Str)) (ig p : Int → Bool) (step : Int) : Nat → Int → Int
  | 0, _ => -1
  | n + 1, here =>
    if 0 ≤ here ∧ here < rows.length then
      if ig (getg rows here) then scan rows ig p step n (here + step)
      else if p (getg rows here) then here
      else if kar (getk rows here) then scan rows ig p step n (here + step)
      else -1
    else -1

local macro_rules | `(tactic| walk_at "exec While Compare cons nil") => `(tactic| refine Here.off ?_)
local macro_rules | `(tactic| walk_at "KswEnd") => `(tactic| refine Here.off ?_)

local macro_rules | `(tactic| walk_at "compareOp NotIn str ref") => `(tactic| (
  k_here
  (with_reducible show wpAny _ _ (compareOp CmpOp.NotIn (Value.str _ _) (Value.ref 99)) _ _ _)
  k_dflt (refine' notin_tuple_strs (ys := [Str.ofString "zwj", Str.ofString "zwnj", Str.ofString "hidden"]) ?k1 ?k2 ?_; (case k1 => kun_tup); (case k2 => kde_strs); k_whole)))

theorem scan_ig {rows : List (Int × Str)} {ig p : Int → Bool} {step : Int} {n : Nat} {here : Int} (h0 : 0 ≤ here) (h1 : here < rows.length)
    (hi : ig (getg rows here) = true) : scan rows ig p step (n + 1) here = scan rows ig p step n (here + step) := by
  simp [scan, h0, h1, hi]
theorem scan_hit {rows : List (Int × Str)} {ig p : Int → Bool} {step : Int} {n : Nat} {here : Int} (h0 : 0 ≤ here) (h1 : here < rows.length)
    (hi : ig (getg rows here) = false) (hp : p (getg rows here) = true) : scan rows ig p step (n + 1) here = here := by
  simp [scan, h0, h1, hi, hp]
theorem scan_on {rows : List (Int × Str)} {ig p : Int → Bool} {step : Int} {n : Nat} {here : Int} (h0 : 0 ≤ here) (h1 : here < rows.length)
    (hi : ig (getg rows here) = false) (hp : p (getg rows here) = false) (hk : kar (getk rows here) = true) : scan rows ig p step (n + 1) here = scan rows ig p step n (here + step) := by
  simp [scan, h0, h1, hi, hp, hk]
theorem scan_off {rows : List (Int × Str)} {ig p : Int → Bool} {step : Int} {n : Nat} {here : Int} (h0 : 0 ≤ here) (h1 : here < rows.length)
    (hi : ig (getg rows here) = false) (hp : p (getg rows here) = false) (hk : kar (getk rows here) = false) : scan rows ig p step (n + 1) here = -1 := by
  simp [scan, h0, h1, hi, hp, hk]
theorem scan_out {rows : List (Int × Str)} {ig p : Int → Bool} {step : Int} {n : Nat} {here : Int} (h : ¬ (0 ≤ here ∧ here < rows.length)) : scan rows ig p step n here = -1 := by
  cases n with
  | zero => rfl
  | succ n => simp only [scan]; rw [if_neg h]

def fuelOk (len step : Int) (n : Nat) (here : Int) : Prop := (step = 1 → len - here < n) ∧ (step = -1 → here < n)

theorem found_at_spec {sc x : Addr} {flag at' step : Int} {ta ts : Tok} {f : Int → Int} {p : Int → Bool} {rows : List (Int × Str)}
    (C : Cx w A₀ base h₀ outer L m mg mb mean news s cs dp un 10) (hs : ScAt w news sc flag f rows) (ht : TestAt w news x p)
    (hf : flag = 0 ∨ flag = 2 ∨ flag = 4 ∨ flag = 8) (h0 : -1 ≤ at') (h1 : at' ≤ rows.length) (h2 : (rows.length : Int) ≤ 8)
    (hst : step = 1 ∨ step = -1)
    (ret : ∀ r t h' tk', r = scan rows (fun g => ign flag (gcl f g)) p step 10 (at' + step) → Fr h₀ L h' m → News h₀ L h' news → Q (.int r t) { s with heap := h', toks := tk' }) :
    wpAny (model PySem.Challenge.rw_pb0191_01.row.prog w) (ktrTop dp un gd cn cs L a ccd cl outer)
      (call (.ref 120) [.ref sc, .int at' ta, .int step ts, .ref x, .ref 99, .bool false]) Q E s := by
  obtain ⟨B, F, X, N, T, hk, hd, hu⟩ := C
  obtain ⟨ds, b, g, lk, _, _, _, _, _, _, _, _, _, _, _, _, _, _, _, _, _, _, _, i1, i2, i3, i4, i5⟩ := id hs
  obtain ⟨_, _, _, _, _, _, _, _, _, _, _, _, _, _, j1, j2, j3⟩ := id i3
  revert X; k_fill; intro X
  refine wpAny_call ?_
  k_dflt ktr_enter
  k_steps
  refine Here.on ?_
  (rename Fr _ _ _ _ => lF')
  (rename News _ _ _ _ => lN')
  refine' ksw_while (σ := Int × Tok) (fun _ => news) (fun c => [(Str.ofString "here", .int c.1 c.2)]) (fun _ => True) [Str.ofString "info"]
    (fun c => ∃ n, fuelOk rows.length step n c.1 ∧ -2 ≤ c.1 ∧ c.1 ≤ 9 ∧
      scan rows (fun g => ign flag (gcl f g)) p step n c.1 = scan rows (fun g => ign flag (gcl f g)) p step 10 (at' + step))
    (fun c => if step = 1 then (9 - c.1).toNat else (c.1 + 2).toNat) (_, _) lF' ?kn ?kf ?kk ?kp ?_
  case kn => exact lN'
  case kf => trivial
  case kk => kst_all
  case kp => exact ⟨10, by unfold fuelOk; omega, by dsimp only; omega, by dsimp only; omega, rfl⟩
  clear lF' lN'
  rintro ⟨here, th⟩ u h tk - ⟨n, hn1, hn2, hn3, hn4⟩ F₁ N₁
  dsimp only at hn1 hn2 hn3 hn4
  (try k_fold)
  k_steps
  · rename (_ : Bool) = ign _ _ => e1
    have a1 : 0 ≤ here := by assumption
    have a2 : here < rows.length := by assumption
    obtain ⟨k, rfl⟩ : ∃ k, n = k + 1 := ⟨n - 1, by unfold fuelOk at hn1; omega⟩
    rw [scan_ig a1 a2 (by rw [← e1]; assumption)] at hn4
    exact Here.on (ksw_end (c := (here, th)) (_, _) (by assumption) (by assumption) (fun p hp => hp) trivial (by kst_all) (by intro z z2 z3; have z4 := z2 _ (List.mem_singleton.mpr rfl); have z5 : ¬ z = Str.ofString "info" := (by simpa using z3); dsimp only at z4; simp [kstB, z4, z5])
      ⟨k, by unfold fuelOk at hn1 ⊢; dsimp only; omega, by dsimp only; omega, by dsimp only; omega, hn4⟩ (by dsimp only; split <;> omega))
  · rename (_ : Bool) = ign _ _ => e1
    rename (_ : Bool) = p _ => e2
    have a1 : 0 ≤ here := by assumption
    have a2 : here < rows.length := by assumption
    obtain ⟨k, rfl⟩ : ∃ k, n = k + 1 := ⟨n - 1, by unfold fuelOk at hn1; omega⟩
    rw [scan_hit a1 a2 (by rw [← e1]; assumption) (by unfold getg; rw [← e2]; assumption)] at hn4
    exact ret _ _ _ _ hn4 (by assumption) (by row_tight)
  · rename (_ : Bool) = ign _ _ => e1
    rename (_ : Bool) = p _ => e2
    rename List.any _ _ = _ => e3
    have a1 : 0 ≤ here := by assumption
    have a2 : here < rows.length := by assumption
    obtain ⟨k, rfl⟩ : ∃ k, n = k + 1 := ⟨n - 1, by unfold fuelOk at hn1; omega⟩
    rw [scan_on a1 a2 (by rw [← e1]; assumption) (by unfold getg; rw [← e2]; assumption) e3] at hn4
    exact Here.on (ksw_end (c := (here, th)) (_, _) (by assumption) (by assumption) (fun p hp => hp) trivial (by kst_all) (by intro z z2 z3; have z4 := z2 _ (List.mem_singleton.mpr rfl); have z5 : ¬ z = Str.ofString "info" := (by simpa using z3); dsimp only at z4; simp [kstB, z4, z5])
      ⟨k, by unfold fuelOk at hn1 ⊢; dsimp only; omega, by dsimp only; omega, by dsimp only; omega, hn4⟩ (by dsimp only; split <;> omega))
  · rename (_ : Bool) = ign _ _ => e1
    rename (_ : Bool) = p _ => e2
    have a1 : 0 ≤ here := by assumption
    have a2 : here < rows.length := by assumption
    rename List.any _ _ = _ => e3
    obtain ⟨k, rfl⟩ : ∃ k, n = k + 1 := ⟨n - 1, by unfold fuelOk at hn1; omega⟩
    rw [scan_off a1 a2 (by rw [← e1]; assumption) (by unfold getg; rw [← e2]; assumption) e3] at hn4
    exact ret _ _ _ _ hn4 (by assumption) (by row_tight)
  all_goals
    rw [scan_out (by dsimp only at *; omega)] at hn4
    exact ret _ _ _ _ hn4 (by assumption) (by row_tight)

end
end Mine
theorem Mine.anew_B2 : True := by
  w_top off
  first | (walk1; done) | trivial

open PySem PySem.W PySem.Spec PySem.Calls PyProof.Rows PyProof.V
set_option Elab.async false
set_option maxRecDepth 100000
set_option maxHeartbeats 8000000
namespace Mine

def GEnd {σ : Type} (h₀ : Heap) (L : Addr) (x : Str → Prop) (ps : σ → List (Str × Value)) (stored : List Str) (m₀ : Str → Option Value)
    (I : Addr) (own : List (Addr × Obj)) (P : σ → List (Addr × Obj) → Prop) (s₁ s₂ : Shared) : Prop :=
  ∃ c h' tk m' nx news', s₂ = { s₁ with heap := h', toks := tk } ∧ Fr h₀ L h' m' ∧ News h₀ L h' news' ∧ (∀ p ∈ own, p ∈ news') ∧
    (∀ p ∈ nx, p ∈ news') ∧ (∀ p ∈ nx, p.1 ≠ I) ∧ (∀ p ∈ ps c, m' p.1 = some p.2) ∧
    (∀ z, ¬ x z → (∀ p ∈ ps c, z ≠ p.1) → stored.contains z = false → m' z = m₀ z) ∧ P c nx

def GPost {σ : Type} (h₀ : Heap) (L : Addr) (x : Str → Prop) (ps : σ → List (Str × Value)) (stored : List Str) (m₀ : Str → Option Value)
    (I : Addr) (own : List (Addr × Obj)) (P : σ → List (Addr × Obj) → Prop) (s₁ : Shared) (Q : Flow → Shared → Prop) (f : Flow) (s₂ : Shared) : Prop :=
  match f with
  | .ret v => Q (.ret v) s₂
  | .brk => Q .next s₂
  | _ => GEnd h₀ L x ps stored m₀ I own P s₁ s₂

theorem GEnd.own {σ : Type} {h₀ : Heap} {L : Addr} {x : Str → Prop} {ps : σ → List (Str × Value)} {stored : List Str} {m₀ : Str → Option Value}
    {I : Addr} {own own' : List (Addr × Obj)} {P : σ → List (Addr × Obj) → Prop} {s₁ s₂ : Shared} (h : GEnd h₀ L x ps stored m₀ I own P s₁ s₂) (hs : ∀ p ∈ own', p ∈ own) : GEnd h₀ L x ps stored m₀ I own' P s₁ s₂ := by
  obtain ⟨c, h', tk, m', nx, news', e, F, N, ho, r⟩ := h
  exact ⟨c, h', tk, m', nx, news', e, F, N, fun p hp => ho p (hs p hp), r⟩
theorem GPost.own {σ : Type} {h₀ : Heap} {L : Addr} {x : Str → Prop} {ps : σ → List (Str × Value)} {stored : List Str} {m₀ : Str → Option Value}
    {I : Addr} {own own' : List (Addr × Obj)} {P : σ → List (Addr × Obj) → Prop} {s₁ s₂ : Shared} {Q : Flow → Shared → Prop} {f : Flow} (h : GPost h₀ L x ps stored m₀ I own P s₁ Q f s₂) (hs : ∀ p ∈ own', p ∈ own) : GPost h₀ L x ps stored m₀ I own' P s₁ Q f s₂ := by
  cases f with
  | ret v => exact h
  | brk => exact h
  | next => exact GEnd.own h hs
  | cont => exact GEnd.own h hs

def GPostN {σ : Type} (h₀ : Heap) (L : Addr) (x : Str → Prop) (ps : σ → List (Str × Value)) (stored : List Str) (m₀ : Str → Option Value)
    (I : Addr) (own : List (Addr × Obj)) (P : σ → List (Addr × Obj) → Prop) (s₁ : Shared) (f : Flow) (s₂ : Shared) : Prop :=
  match f with
  | .next => GEnd h₀ L x ps stored m₀ I own P s₁ s₂
  | _ => False

theorem gEnd {σ : Type} {h₀ : Heap} {L : Addr} {x : Str → Prop} {ps : σ → List (Str × Value)} {stored : List Str} {m₀ m' : Str → Option Value}
    {I : Addr} {own news' : List (Addr × Obj)} {P : σ → List (Addr × Obj) → Prop} {s₁ : Shared} {h' : Heap} {tk : Nat} (c : σ) (nx : List (Addr × Obj))
    (F : Fr h₀ L h' m') (N : News h₀ L h' news') (ho : ∀ p ∈ own, p ∈ news') (hn : ∀ p ∈ nx, p ∈ news') (hI : ∀ p ∈ nx, p.1 ≠ I)
    (hk : ∀ p ∈ ps c, m' p.1 = some p.2) (hr : ∀ z, ¬ x z → (∀ p ∈ ps c, z ≠ p.1) → stored.contains z = false → m' z = m₀ z) (hp : P c nx) :
    GEnd h₀ L x ps stored m₀ I own P s₁ { s₁ with heap := h', toks := tk } := ⟨c, h', tk, m', nx, news', rfl, F, N, ho, hn, hI, hk, hr, hp⟩

section
variable {prog : Program} {w : World} {A : Around} {E : Value → Shared → Prop} {s : Shared} {env : Env} {h₀ : Heap} {x : Str} {body : List Stmt} {Q : Flow → Shared → Prop}

theorem loopG {σ : Type} {I : Addr} {fp : List Addr} {n : Nat} {Pv : Nat → Value → Prop} {St : Nat → Heap → Prop} {m₀ : Str → Option Value} {news : List (Addr × Obj)} {s₂ : Shared}
    (W : Walks prog w A I fp [I] n Pv St) (live : ∀ i h, St i h → ∃ o, h.get? I = some o) (hLf : env.locals ∉ fp) (hI : h₀.get? I = none)
    (hnw : ∀ p ∈ news, p.1 ≠ I) (hst : St 0 s₂.heap) (F : Fr h₀ env.locals s₂.heap m₀) (N : News h₀ env.locals s₂.heap news)
    (ps : σ → List (Str × Value)) (stored : List Str) (P : Nat → σ → List (Addr × Obj) → Prop) (c₀ : σ)
    (hk : ∀ p ∈ ps c₀, m₀ p.1 = some p.2) (hp : P 0 c₀ news)
    (turn : ∀ c i v (u : Str → Option Value) nx own led oI h tk, i < n → Pv i v → P i c nx → (∀ p ∈ nx, p.1 ≠ I) → (∀ p ∈ own, p.1 ∈ fp) → (I, oI) ∈ led → (∀ p ∈ own, p ∈ led) → (∀ p ∈ nx, p ∈ led) →
      Fr h₀ env.locals h (fun y => if y = x then some v else kstB (fun z => if stored.contains z then u z else m₀ z) (ps c) y) → News h₀ env.locals h led →
      wpAny (model prog w) A (execs body env) (GPost h₀ env.locals (· = x) ps stored m₀ I own (P (i + 1)) { s₂ with heap := h, toks := tk } Q) E { s₂ with heap := h, toks := tk })
    (done : ∀ c (u : Str → Option Value) nx h tk, P n c nx → Fr h₀ env.locals h (fun y => if y = x then u y else kstB (fun z => if stored.contains z then u z else m₀ z) (ps c) y) → News h₀ env.locals h nx → Q .next { s₂ with heap := h, toks := tk }) :
    LoopAtV prog w A h₀ env x body Q E (.ref I) s₂ := by
  refine ⟨I, fp, [I], n, Pv, St, m₀, news,
    (fun i m nx => ∃ c, (∀ p ∈ ps c, m p.1 = some p.2) ∧ (∀ z, z ≠ x → (∀ p ∈ ps c, z ≠ p.1) → stored.contains z = false → m z = m₀ z) ∧ P i c nx),
    rfl, W, hLf, (fun b hb => by rw [List.mem_singleton.mp hb]; exact hI), (fun p hp hq => hnw p hp (List.mem_singleton.mp hq)), hst, F, N,
    ⟨c₀, hk, fun _ _ _ _ => rfl, hp⟩, ?_, ?_⟩
  · rintro i v m₁ nx s₁ own ⟨h, tk, rfl⟩ hi hv ⟨c, h1, h2, hP⟩ hoff hfp _ hall hst₁ F₁ N₁
    obtain ⟨oI, hoI⟩ := live _ _ hst₁
    have hmem : (I, oI) ∈ own := hall I (W.sub I (List.mem_singleton.mpr rfl)) hI oI hoI
    refine wpAny_mono (turn c i v m₁ nx own (own ++ nx) oI h tk hi hv hP (fun p hp e => hoff p hp (List.mem_singleton.mpr e)) hfp (List.mem_append_left _ hmem)
      (fun p hp => List.mem_append_left _ hp) (fun p hp => List.mem_append_right _ hp) (kst_fr h1 h2 F₁) N₁) (fun f s₃ q => ?_) fun _ _ e => e
    have fin : GEnd h₀ env.locals (· = x) ps stored m₀ I own (P (i + 1)) { s₂ with heap := h, toks := tk } s₃ →
        LoopStepU h₀ env.locals [I] own (fun m nx => ∃ c, (∀ p ∈ ps c, m p.1 = some p.2) ∧ (∀ z, z ≠ x → (∀ p ∈ ps c, z ≠ p.1) → stored.contains z = false → m z = m₀ z) ∧ P (i + 1) c nx)
          { s₂ with heap := h, toks := tk } .next s₃ := by
      rintro ⟨c', h', tk', m', nx', news', e, F', N', ho, hn, hI', hk', hr', hp'⟩
      refine ⟨rfl, h', tk', m', nx', e, F', fun p hp => ?_, fun p hp hq => hI' p hp (List.mem_singleton.mp hq), c', hk', hr', hp'⟩
      rcases List.mem_append.mp hp with hp | hp
      · exact N' p (ho p hp)
      · exact N' p (hn p hp)
    cases f with
    | ret v => exact .ret q
    | brk => exact .brk q
    | next => exact .next (fin q)
    | cont => exact .cont (fin q)
  · rintro h' tk m' nx F' N' _ ⟨c, h1, h2, hP⟩
    exact done c m' nx h' tk hP (kst_frOut h1 h2 F') N'

theorem iterG_list {σ : Type} {l : Addr} {its : Array Value} {nn : Nat} {m₀ : Str → Option Value} {news : List (Addr × Obj)}
    (hh : A.handled = none) (hm : (l, listOf its nn) ∈ news) (F : Fr h₀ env.locals s.heap m₀) (N : News h₀ env.locals s.heap news)
    (ps : σ → List (Str × Value)) (stored : List Str) (P : Nat → σ → List (Addr × Obj) → Prop) (c₀ : σ)
    (hk : ∀ p ∈ ps c₀, m₀ p.1 = some p.2) (hp : P 0 c₀ news)
    (turn : ∀ c i v (u : Str → Option Value) nx own led I oI h tk, i < its.size → its[i]? = some v → P i c nx → (∀ p ∈ nx, p.1 ≠ I) → (I, oI) ∈ led → (∀ p ∈ own, p ∈ led) → (∀ p ∈ nx, p ∈ led) →
      Fr h₀ env.locals h (fun y => if y = x then some v else kstB (fun z => if stored.contains z then u z else m₀ z) (ps c) y) → News h₀ env.locals h led →
      wpAny (model prog w) A (execs body env) (GPost h₀ env.locals (· = x) ps stored m₀ I own (P (i + 1)) { s with heap := h, toks := tk } Q) E { s with heap := h, toks := tk })
    (done : ∀ c (u : Str → Option Value) nx h tk, P its.size c nx → Fr h₀ env.locals h (fun y => if y = x then u y else kstB (fun z => if stored.contains z then u z else m₀ z) (ps c) y) → News h₀ env.locals h nx → Q .next { s with heap := h, toks := tk }) :
    wpAny (model prog w) A (pyIter (.ref l)) (fun it s₂ => LoopAtV prog w A h₀ env x body Q E it s₂) E s := by
  have hls : s.heap.IsList l its := News.isList (n := nn) N hm
  have hlt : l < s.heap.objs.size := Heap.lt_size (N _ hm).1
  have hne : l ≠ s.heap.objs.size := Nat.ne_of_lt hlt
  refine wpAny_pyIter_list hls ?_
  have W := Walks.list (prog := prog) (w := w) hh s.heap.objs.size l hne its
  refine loopG W (fun i h st => ?_) ?_ (next_is_new F) ?_ ⟨⟨_, Heap.get?_push_size _ rfl, rfl, rfl⟩, hls.at fun o e => Heap.get?_push_of_some _ e⟩ (F.push _)
    (fun p hp => ⟨Heap.get?_push_of_some _ (N p hp).1, (N p hp).2⟩) ps stored P c₀ hk hp ?_ ?_
  · obtain ⟨⟨o, ho, _⟩, _⟩ := st
    exact ⟨o, ho⟩
  · intro hm'
    rcases List.mem_cons.mp hm' with e | hm'
    · exact absurd F.ns.lt (e ▸ Nat.lt_irrefl _)
    · exact absurd (List.mem_singleton.mp hm') (Ne.symm (N _ hm).2.1)
  · intro p hp hI
    exact absurd (Heap.lt_size (N p hp).1) (hI ▸ Nat.lt_irrefl _)
  · intro c i v u nx own led oI h tk hi hv hP hI _ hled ho hn F₁ N₁
    exact turn c i v u nx own led _ oI h tk hi hv hP hI hled ho hn F₁ N₁
  · intro c u nx h tk hP F₁ N₁
    exact done c u nx h tk hP F₁ N₁

theorem iterG_nil {l : Addr} {nn : Nat} {m₀ : Str → Option Value} {news : List (Addr × Obj)}
    (hh : A.handled = none) (hm : (l, listOf #[] nn) ∈ news) (F : Fr h₀ env.locals s.heap m₀) (N : News h₀ env.locals s.heap news)
    (done : ∀ (u : Str → Option Value) h tk, Fr h₀ env.locals h (fun y => if y = x then u y else m₀ y) → News h₀ env.locals h news → Q .next { s with heap := h, toks := tk }) :
    wpAny (model prog w) A (pyIter (.ref l)) (fun it s₂ => LoopAtV prog w A h₀ env x body Q E it s₂) E s := by
  refine iterG_list (σ := Unit) hh hm F N (fun _ => []) [] (fun i c nx => nx = news) () (fun _ hp => nomatch hp) rfl ?_ ?_
  · intro c i v u nx own led I oI h tk hi
    exact absurd hi (by simp)
  · rintro c u nx h tk rfl F₁ N₁
    exact done u h tk F₁ N₁

theorem iterG_tup {σ : Type} {l : Addr} {its : Array Value} {nn : Nat} {m₀ : Str → Option Value} {news : List (Addr × Obj)}
    (hh : A.handled = none) (hm : (l, { cls := .type "tuple", data := .seq its nn }) ∈ news) (F : Fr h₀ env.locals s.heap m₀) (N : News h₀ env.locals s.heap news)
    (ps : σ → List (Str × Value)) (stored : List Str) (P : Nat → σ → List (Addr × Obj) → Prop) (c₀ : σ)
    (hk : ∀ p ∈ ps c₀, m₀ p.1 = some p.2) (hp : P 0 c₀ news)
    (turn : ∀ c i v (u : Str → Option Value) nx own led I oI h tk, i < its.size → its[i]? = some v → P i c nx → (∀ p ∈ nx, p.1 ≠ I) → (I, oI) ∈ led → (∀ p ∈ own, p ∈ led) → (∀ p ∈ nx, p ∈ led) →
      Fr h₀ env.locals h (fun y => if y = x then some v else kstB (fun z => if stored.contains z then u z else m₀ z) (ps c) y) → News h₀ env.locals h led →
      wpAny (model prog w) A (execs body env) (GPost h₀ env.locals (· = x) ps stored m₀ I own (P (i + 1)) { s with heap := h, toks := tk } Q) E { s with heap := h, toks := tk })
    (done : ∀ c (u : Str → Option Value) nx h tk, P its.size c nx → Fr h₀ env.locals h (fun y => if y = x then u y else kstB (fun z => if stored.contains z then u z else m₀ z) (ps c) y) → News h₀ env.locals h nx → Q .next { s with heap := h, toks := tk }) :
    wpAny (model prog w) A (pyIter (.ref l)) (fun it s₂ => LoopAtV prog w A h₀ env x body Q E it s₂) E s := by
  have hls : s.heap.IsTuple l its := News.isTup (n := nn) N hm
  have hlt : l < s.heap.objs.size := Heap.lt_size (N _ hm).1
  have hne : l ≠ s.heap.objs.size := Nat.ne_of_lt hlt
  refine wpAny_pyIter_tuple hls ?_
  have W := Walks.tuple (prog := prog) (w := w) hh s.heap.objs.size l hne its
  refine loopG W (fun i h st => ?_) ?_ (next_is_new F) ?_ ⟨⟨_, Heap.get?_push_size _ rfl, rfl, rfl⟩, hls.at fun o e => Heap.get?_push_of_some _ e⟩ (F.push _)
    (fun p hp => ⟨Heap.get?_push_of_some _ (N p hp).1, (N p hp).2⟩) ps stored P c₀ hk hp ?_ ?_
  · obtain ⟨⟨o, ho, _⟩, _⟩ := st
    exact ⟨o, ho⟩
  · intro hm'
    rcases List.mem_cons.mp hm' with e | hm'
    · exact absurd F.ns.lt (e ▸ Nat.lt_irrefl _)
    · exact absurd (List.mem_singleton.mp hm') (Ne.symm (N _ hm).2.1)
  · intro p hp hI
    exact absurd (Heap.lt_size (N p hp).1) (hI ▸ Nat.lt_irrefl _)
  · intro c i v u nx own led oI h tk hi hv hP hI _ hled ho hn F₁ N₁
    exact turn c i v u nx own led _ oI h tk hi hv hP hI hled ho hn F₁ N₁
  · intro c u nx h tk hP F₁ N₁
    exact done c u nx h tk hP F₁ N₁

theorem iterG_range {σ : Type} {r : Addr} {b₀ : Int} {t₀ u₀ v₀ : Tok} {n : Nat} {m₀ : Str → Option Value} {news : List (Addr × Obj)}
    (hh : A.handled = none) (hr : IsRange s.heap r 0 b₀ 1 t₀ u₀ v₀) (hsmall : Builtin.Range.small 0 b₀ 1 = true) (hn : Builtin.Range.rangeSize 0 b₀ 1 = (n : Int))
    (F : Fr h₀ env.locals s.heap m₀) (N : News h₀ env.locals s.heap news)
    (ps : σ → List (Str × Value)) (stored : List Str) (P : Nat → σ → List (Addr × Obj) → Prop) (c₀ : σ)
    (hk : ∀ p ∈ ps c₀, m₀ p.1 = some p.2) (hp : P 0 c₀ news)
    (turn : ∀ c i t (u : Str → Option Value) nx own led I oI h tk, i < n → P i c nx → (∀ p ∈ nx, p.1 ≠ I) → (I, oI) ∈ led → (∀ p ∈ own, p ∈ led) → (∀ p ∈ nx, p ∈ led) →
      Fr h₀ env.locals h (fun y => if y = x then some (.int (i : Nat) t) else kstB (fun z => if stored.contains z then u z else m₀ z) (ps c) y) → News h₀ env.locals h led →
      wpAny (model prog w) A (execs body env) (GPost h₀ env.locals (· = x) ps stored m₀ I own (P (i + 1)) { s with heap := h, toks := tk } Q) E { s with heap := h, toks := tk })
    (done : ∀ c (u : Str → Option Value) nx h tk, P n c nx → Fr h₀ env.locals h (fun y => if y = x then u y else kstB (fun z => if stored.contains z then u z else m₀ z) (ps c) y) → News h₀ env.locals h nx → Q .next { s with heap := h, toks := tk }) :
    wpAny (model prog w) A (pyIter (.ref r)) (fun it s₂ => LoopAtV prog w A h₀ env x body Q E it s₂) E s := by
  refine wpAny_pyIter_range hr hsmall ?_
  have W := Walks.range (prog := prog) (w := w) hh s.heap.objs.size 0 1 n
  refine loopG W (fun i h st => ⟨_, st⟩) ?_ (next_is_new F) ?_ (by show IsRangeIter _ _ _ _ _; rw [hn]; simpa using Heap.get?_push_size _ rfl) (F.push _)
    (fun p hp => ⟨Heap.get?_push_of_some _ (N p hp).1, (N p hp).2⟩) ps stored P c₀ hk hp ?_ ?_
  · intro hm
    exact absurd F.ns.lt ((List.mem_singleton.mp hm) ▸ Nat.lt_irrefl _)
  · intro p hp hI
    exact absurd (Heap.lt_size (N p hp).1) (hI ▸ Nat.lt_irrefl _)
  · rintro c i v u nx own led oI h tk hi ⟨t, rfl⟩ hP hI _ hled ho hn F₁ N₁
    have e1 : (0 : Int) + (i : Int) * 1 = (i : Int) := by omega
    rw [e1] at F₁
    exact turn c i t u nx own led _ oI h tk hi hP hI hled ho hn F₁ N₁
  · intro c u nx h tk hP F₁ N₁
    exact done c u nx h tk hP F₁ N₁

theorem iterG_rangeD {σ : Type} {r : Addr} {b₀ : Int} {t₀ u₀ v₀ : Tok} {m₀ : Str → Option Value} {news : List (Addr × Obj)}
    (hh : A.handled = none) (hr : IsRange s.heap r 0 b₀ 1 t₀ u₀ v₀) (hb : 0 ≤ b₀ ∧ b₀ < 1000)
    (F : Fr h₀ env.locals s.heap m₀) (N : News h₀ env.locals s.heap news)
    (ps : σ → List (Str × Value)) (stored : List Str) (P : Nat → σ → List (Addr × Obj) → Prop) (c₀ : σ)
    (hk : ∀ p ∈ ps c₀, m₀ p.1 = some p.2) (hp : P 0 c₀ news)
    (turn : ∀ c (i : Nat) t (u : Str → Option Value) nx I oI h tk, (i : Int) < b₀ → P i c nx → (∀ p ∈ nx, p.1 ≠ I) →
      Fr h₀ env.locals h (fun y => if y = x then some (.int (i : Nat) t) else kstB (fun z => if stored.contains z then u z else m₀ z) (ps c) y) → News h₀ env.locals h ((I, oI) :: nx) →
      wpAny (model prog w) A (execs body env) (GPost h₀ env.locals (· = x) ps stored m₀ I [(I, oI)] (P (i + 1)) { s with heap := h, toks := tk } Q) E { s with heap := h, toks := tk })
    (done : ∀ c (u : Str → Option Value) nx h tk, P b₀.toNat c nx → Fr h₀ env.locals h (fun y => if y = x then u y else kstB (fun z => if stored.contains z then u z else m₀ z) (ps c) y) → News h₀ env.locals h nx → Q .next { s with heap := h, toks := tk }) :
    wpAny (model prog w) A (pyIter (.ref r)) (fun it s₂ => LoopAtV prog w A h₀ env x body Q E it s₂) E s := by
  have hn : Builtin.Range.rangeSize 0 b₀ 1 = ((b₀.toNat : Nat) : Int) := by rw [rangeSize_nat]; congr 2; omega
  refine wpAny_pyIter_range hr (small_one (by omega) (by omega) (by omega) (by omega)) ?_
  have W := Walks.range (prog := prog) (w := w) hh s.heap.objs.size 0 1 b₀.toNat
  refine loopG W (fun i h st => ⟨_, st⟩) ?_ (next_is_new F) ?_ (by show IsRangeIter _ _ _ _ _; rw [hn]; simpa using Heap.get?_push_size _ rfl) (F.push _)
    (fun p hp => ⟨Heap.get?_push_of_some _ (N p hp).1, (N p hp).2⟩) ps stored P c₀ hk hp ?_ ?_
  · intro hm
    exact absurd F.ns.lt ((List.mem_singleton.mp hm) ▸ Nat.lt_irrefl _)
  · intro p hp hI
    exact absurd (Heap.lt_size (N p hp).1) (hI ▸ Nat.lt_irrefl _)
  · rintro c i v u nx own led oI h tk hi ⟨t, rfl⟩ hP hI hfp hled ho hn F₁ N₁
    have e1 : (0 : Int) + (i : Int) * 1 = (i : Int) := by omega
    rw [e1] at F₁
    refine wpAny_mono (turn c i t u nx _ oI h tk (by omega) hP hI F₁ (fun p hp => ?_)) (fun f s₃ q => q.own fun p hp => ?_) fun _ _ e => e
    · rcases List.mem_cons.mp hp with rfl | hp
      · exact N₁ _ hled
      · exact N₁ _ (hn p hp)
    · have e2 := List.mem_singleton.mp (hfp p hp)
      have e3 := (N₁ p (ho p hp)).1
      have e4 := (N₁ _ hled).1
      rw [e2] at e3
      have e5 : p.2 = oI := Option.some.inj (e3.symm.trans e4)
      obtain ⟨p1, p2⟩ := p
      simp only at e2 e5
      subst e2 e5
      exact List.mem_singleton.mpr rfl
  · intro c u nx h tk hP F₁ N₁
    exact done c u nx h tk hP F₁ N₁

theorem iterGT_list {σ : Type} {target : PySem.Expr} {l : Addr} {its : Array Value} {nn : Nat} {m₀ : Str → Option Value} {news : List (Addr × Obj)}
    (hh : A.handled = none) (hm : (l, listOf its nn) ∈ news) (F : Fr h₀ env.locals s.heap m₀) (N : News h₀ env.locals s.heap news)
    (ps : σ → List (Str × Value)) (stored : List Str) (P : Nat → σ → List (Addr × Obj) → Prop) (c₀ : σ)
    (hk : ∀ p ∈ ps c₀, m₀ p.1 = some p.2) (hp : P 0 c₀ news) (hl : ∀ i c nx, P i c nx → (l, listOf its nn) ∈ nx)
    (turn : ∀ c i v (u : Str → Option Value) nx I oI (s₁ : Shared), i < its.size → its[i]? = some v → P i c nx → (∀ p ∈ nx, p.1 ≠ I) →
      Fr h₀ env.locals s₁.heap (kstB (fun z => if stored.contains z then u z else m₀ z) (ps c)) → News h₀ env.locals s₁.heap ((I, oI) :: nx) →
      wpAny (model prog w) A (assign target env v) (fun _ s₃ => wpAny (model prog w) A (execs body env) (GPostN h₀ env.locals (fun _ => False) ps stored m₀ I [(I, oI)] (P (i + 1)) s₁) E s₃) E s₁)
    (done : ∀ c (u : Str → Option Value) nx h tk, P its.size c nx → Fr h₀ env.locals h (kstB (fun z => if stored.contains z then u z else m₀ z) (ps c)) → News h₀ env.locals h nx → Q .next { s with heap := h, toks := tk }) :
    wpAny (model prog w) A (pyIter (.ref l)) (fun it s₂ => LoopAtT prog w A h₀ env target body Q E it s₂) E s := by
  have hls : s.heap.IsList l its := News.isList (n := nn) N hm
  have hlt : l < s.heap.objs.size := Heap.lt_size (N _ hm).1
  have hne : l ≠ s.heap.objs.size := Nat.ne_of_lt hlt
  refine wpAny_pyIter_list hls ?_
  have W := Walks.list (prog := prog) (w := w) hh s.heap.objs.size l hne its
  refine ⟨s.heap.objs.size, _, [s.heap.objs.size], its.size, _, _, m₀, news,
    (fun i m nx => ∃ c, (∀ p ∈ ps c, m p.1 = some p.2) ∧ (∀ z, (∀ p ∈ ps c, z ≠ p.1) → stored.contains z = false → m z = m₀ z) ∧ P i c nx),
    rfl, W, ?_, (fun b hb => by rw [List.mem_singleton.mp hb]; exact next_is_new F), ?_,
    ⟨⟨_, Heap.get?_push_size _ rfl, rfl, rfl⟩, hls.at fun o e => Heap.get?_push_of_some _ e⟩, F.push _,
    (fun p hp => ⟨Heap.get?_push_of_some _ (N p hp).1, (N p hp).2⟩), (fun i s' v Q' st hQ' => letGo_listiter st.1 hQ'), ⟨c₀, hk, fun _ _ _ => rfl, hp⟩, ?_, ?_⟩
  · intro hm'
    rcases List.mem_cons.mp hm' with e | hm'
    · exact absurd F.ns.lt (e ▸ Nat.lt_irrefl _)
    · exact absurd (List.mem_singleton.mp hm') (Ne.symm (N _ hm).2.1)
  · intro p hp hI
    exact absurd (Heap.lt_size (N p hp).1) ((List.mem_singleton.mp hI) ▸ Nat.lt_irrefl _)
  · rintro i v m₁ nx s₁ own hi hv ⟨c, h1, h2, hP⟩ hoff hfp _ hall hst₁ F₁ N₁
    obtain ⟨oI, hoI⟩ : ∃ oI, s₁.heap.get? s.heap.objs.size = some oI := by
      obtain ⟨⟨o, ho, _⟩, _⟩ := hst₁
      exact ⟨o, ho⟩
    have hmem : (s.heap.objs.size, oI) ∈ own := hall _ (.head _) (next_is_new F) oI hoI
    have N₂ : News h₀ env.locals s₁.heap ((s.heap.objs.size, oI) :: nx) := fun p hp => by
      rcases List.mem_cons.mp hp with rfl | hp
      · exact N₁ _ (List.mem_append_left _ hmem)
      · exact N₁ _ (List.mem_append_right _ hp)
    refine wpAny_mono (turn c i v m₁ nx _ oI s₁ hi hv hP (fun p hp e => hoff p hp (List.mem_singleton.mpr e)) (ksw_fr h1 h2 F₁) N₂) (fun _ s₃ q => wpAny_mono q (fun f s₄ q => ?_) fun _ _ e => e) fun _ _ e => e
    cases f with
    | ret v => exact q.elim
    | brk => exact q.elim
    | cont => exact q.elim
    | next =>
      obtain ⟨c', h', tk', m', nx', news', e, F', N', ho, hn, hI', hk', hr', hp'⟩ := q
      refine ⟨rfl, h', tk', m', nx', e, F', fun p hp => ?_, fun p hp hq => hI' p hp (List.mem_singleton.mp hq), c', hk', fun z a b => hr' z (fun h => h) a b, hp'⟩
      rcases List.mem_append.mp hp with hp | hp
      · have hg := (N₁ p (List.mem_append_left _ hp)).1
        rcases List.mem_cons.mp (hfp p hp) with e1 | e1
        · rw [e1, hoI] at hg
          have : p = (s.heap.objs.size, oI) := by
            obtain ⟨p1, p2⟩ := p
            simp only at e1 hg
            rw [e1, Option.some.inj hg]
          rw [this]
          exact N' _ (ho _ (.head _))
        · have e2 := List.mem_singleton.mp e1
          have hg2 := (N₁ _ (List.mem_append_right _ (hl _ _ _ hP))).1
          rw [e2] at hg
          have : p = (l, listOf its nn) := by
            obtain ⟨p1, p2⟩ := p
            simp only at e2 hg hg2
            rw [e2, Option.some.inj (hg.symm.trans hg2)]
          rw [this]
          exact N' _ (hn _ (hl _ _ _ hp'))
      · exact N' p (hn p hp)
  · rintro h' tk m' nx F' N' _ ⟨c, h1, h2, hP⟩
    exact done c m' nx h' tk hP (ksw_fr h1 h2 F') N'
end
end Mine
theorem Mine.anew_G : True := by
  w_top off
  first | (walk1; done) | trivial

open PySem PySem.W PySem.Spec PySem.Calls PyProof.Rows PyProof.V
set_option Elab.async false
set_option maxRecDepth 100000
set_option maxHeartbeats 8000000
namespace Mine

local macro_rules | `(tactic| tb_start) => `(tactic| (
  refine' Cx.mk ?cxB ?cxF ?cxX ?cxN ?cxT ?cxk ?cxd ?cxu
  (case cxB => k_asm); (case cxF => k_asm); (case cxX => k_asm); (case cxN => k_asm); (case cxT => k_asm)
  (case cxk => first | exact rfl | assumption); (case cxd => ktr_room); (case cxu => ktr_units)))
local macro_rules | `(tactic| row_tight) => `(tactic| first
  | assumption
  | exact kst_newsOf (by assumption) (by intro p hp; simp only [List.mem_cons, hp, or_true, true_or]))

section
variable {w : World} {news news' : List (Addr × Obj)}
theorem CdAt.mono {x : Addr} {f : Int → Int} (h : CdAt w news x f) (hs : ∀ p ∈ news, p ∈ news') : CdAt w news' x f := by
  obtain ⟨ds, dd, hsh, kt, n, od, kvs, D, h1, h2, h3, r⟩ := h
  exact ⟨ds, dd, hsh, kt, n, od, kvs, D, hs _ h1, hs _ h2, hs _ h3, r⟩
theorem InAt.mono {x : Addr} {g : Int} {k : Str} (h : InAt news x g k) (hs : ∀ p ∈ news, p ∈ news') : InAt news' x g k := by
  obtain ⟨di, es, n, tg, tk, tm, h1, h2, r⟩ := h
  exact ⟨di, es, n, tg, tk, tm, hs _ h1, hs _ h2, r⟩
theorem GdAt.mono {x : Addr} {f : Int → Int} (h : GdAt w news x f) (hs : ∀ p ∈ news, p ∈ news') : GdAt w news' x f := by
  obtain ⟨ds, cd, h1, h2, h3, h4, h5, k1, k2, k3, k4, k5, v2, v3, v4, v5, n, i1, i2, i3⟩ := h
  exact ⟨ds, cd, h1, h2, h3, h4, h5, k1, k2, k3, k4, k5, v2, v3, v4, v5, n, hs _ i1, hs _ i2, i3.mono hs⟩
theorem LkAt.mono {x : Addr} {f : Int} (h : LkAt news x f) (hs : ∀ p ∈ news, p ∈ news') : LkAt news' x f := by
  obtain ⟨ds, h1, h2, h3, h4, k1, k2, k3, k4, t, v1, v3, v4, n, i1, i2⟩ := h
  exact ⟨ds, h1, h2, h3, h4, k1, k2, k3, k4, t, v1, v3, v4, n, hs _ i1, hs _ i2⟩
theorem RowAt.mono {x : Addr} {rows : List (Int × Str)} (h : RowAt news x rows) (hs : ∀ p ∈ news, p ∈ news') : RowAt news' x rows := by
  obtain ⟨its, n, h1, h2, h3⟩ := h
  refine ⟨its, n, hs _ h1, h2, fun i hi => ?_⟩
  obtain ⟨x, e, r⟩ := h3 i hi
  exact ⟨x, e, r.mono hs⟩
theorem BufAt.mono {x : Addr} {rows : List (Int × Str)} (h : BufAt news x rows) (hs : ∀ p ∈ news, p ∈ news') : BufAt news' x rows := by
  obtain ⟨ds, rl, h1, h2, h3, h4, k1, k2, k3, k4, v2, v3, v4, n, i1, i2, i3⟩ := h
  exact ⟨ds, rl, h1, h2, h3, h4, k1, k2, k3, k4, v2, v3, v4, n, hs _ i1, hs _ i2, i3.mono hs⟩
theorem ScAt.mono {x : Addr} {flag : Int} {f : Int → Int} {rows : List (Int × Str)} (h : ScAt w news x flag f rows) (hs : ∀ p ∈ news, p ∈ news') : ScAt w news' x flag f rows := by
  obtain ⟨ds, b, g, lk, h1, h2, h3, h4, h5, h6, h7, k1, k2, k3, k4, k5, k6, k7, t, v3, v6, v7, n, i1, i2, i3, i4, i5⟩ := h
  exact ⟨ds, b, g, lk, h1, h2, h3, h4, h5, h6, h7, k1, k2, k3, k4, k5, k6, k7, t, v3, v6, v7, n, hs _ i1, hs _ i2, i3.mono hs, i4.mono hs, i5.mono hs⟩
theorem TestAt.mono {x : Addr} {p : Int → Bool} (h : TestAt w news x p) (hs : ∀ p ∈ news, p ∈ news') : TestAt w news' x p := by
  rcases h with ⟨g, t, t', n, i1, i2⟩ | ⟨k, cd, f, t, t', n, i1, i3, i2⟩
  · exact .inl ⟨g, t, t', n, hs _ i1, i2⟩
  · exact .inr ⟨k, cd, f, t, t', n, hs _ i1, i3.mono hs, i2⟩
end

def noT : Int → Bool := fun _ => false
def TestsAt (w : World) (news : List (Addr × Obj)) (tl : Addr) (ps : List (Int → Bool)) : Prop :=
  (∃ (its : Array Value) (n : Nat), (tl, listOf its n) ∈ news ∧ its.size = ps.length ∧
    ∀ i, i < ps.length → ∃ x, its[i]? = some (.ref x) ∧ TestAt w news x (ps.getD i noT)) ∨
  (ps = [] ∧ ∃ n, (tl, tupObj [] n) ∈ news)
theorem TestsAt.mono {w : World} {news news' : List (Addr × Obj)} {x : Addr} {ps : List (Int → Bool)} (h : TestsAt w news x ps) (hs : ∀ p ∈ news, p ∈ news') : TestsAt w news' x ps := by
  rcases h with ⟨its, n, h1, h2, h3⟩ | ⟨e, n, h1⟩
  · refine .inl ⟨its, n, hs _ h1, h2, fun i hi => ?_⟩
    obtain ⟨x, e, r⟩ := h3 i hi
    exact ⟨x, e, r.mono hs⟩
  · exact .inr ⟨e, n, hs _ h1⟩

def scanAll (rows : List (Int × Str)) (ig : Int → Bool) (step : Int) : List (Int → Bool) → Int → Int
  | [], here => here
  | p :: ps, here =>
    if scan rows ig p step 10 (here + step) < 0 then -1
    else scanAll rows ig step ps (scan rows ig p step 10 (here + step))

theorem scan_range {rows : List (Int × Str)} {ig p : Int → Bool} {step : Int} : ∀ (n : Nat) (here : Int), scan rows ig p step n here = -1 ∨ (0 ≤ scan rows ig p step n here ∧ scan rows ig p step n here < rows.length)
  | 0, _ => .inl rfl
  | n + 1, here => by
    unfold scan
    split
    · split
      · exact scan_range n _
      · split
        · exact .inr (by assumption)
        · split
          · exact scan_range n _
          · exact .inl rfl
    · exact .inl rfl

theorem drop_getD {α : Type} {d : α} : ∀ {ps : List α} {i : Nat}, i < ps.length → ps.drop i = ps.getD i d :: ps.drop (i + 1)
  | [], i, h => absurd h (by simp)
  | p :: ps, 0, _ => by simp
  | p :: ps, i + 1, h => by
    have := drop_getD (d := d) (ps := ps) (i := i) (by simpa using h)
    simpa using this

section
variable {w : World} {dp un : Nat} {gd : Option (List Code)} {cn : Str} {cs : Scope} {a : Addr} {ccd : Value}
  {cl : List (Str × Addr)} {outer : List Env} {A₀ : Around} {base h₀ : Heap} {L : Addr}
  {m mg mb : Str → Option Value} {mean : ExcName → Option Value} {news : List (Addr × Obj)} {s : Shared}
  {Q E : Value → Shared → Prop}

local macro_rules | `(tactic| walk_at "call ref") => `(tactic| (
  k_here
  (with_reducible show wpAny _ _ (call (Value.ref 120) _) _ _ _)
  k_dflt (refine' found_at_spec ?cC ?ch ?ct ?cf ?c0 ?c1 ?c2 ?cs ?_; (case cC => tb_start); (case ch => k_asm); (case ct => k_asm); (case cf => k_asm); (case c0 => omega); (case c1 => omega); (case c2 => omega); (case cs => k_asm); k_whole
          intro r t' h' tk' er' F' N'; (try dsimp only); (try k_fold))))
local macro_rules | `(tactic| walk_at "exec For Name Name cons nil") => `(tactic| (k_here; (rename Fr _ _ _ _ => lF'); (with_unfolding_all refine' For_invVF lF' ?k1 ?k2 ?_; (case k1 => exact rfl); (case k2 => exact rfl); k_whole)))
local macro_rules | `(tactic| walk_at "pyIter ref") => `(tactic| refine Here.off ?_)
local macro_rules | `(tactic| walk_at "GEnd") => `(tactic| refine Here.off ?_)
local macro_rules | `(tactic| walk_at "GPost") => `(tactic| dsimp only [GPost])

theorem last_at_spec {sc tl : Addr} {flag at' step : Int} {ta ts : Tok} {f : Int → Int} {ps : List (Int → Bool)} {rows : List (Int × Str)}
    (C : Cx w A₀ base h₀ outer L m mg mb mean news s cs dp un 12) (hs : ScAt w news sc flag f rows) (ht : TestsAt w news tl ps)
    (hf : flag = 0 ∨ flag = 2 ∨ flag = 4 ∨ flag = 8) (h0 : 0 ≤ at') (h1 : at' < rows.length) (h2 : (rows.length : Int) ≤ 8)
    (hst : step = 1 ∨ step = -1)
    (ret : ∀ r t h' tk', r = scanAll rows (fun g => ign flag (gcl f g)) step ps at' → Fr h₀ L h' m → News h₀ L h' news → Q (.int r t) { s with heap := h', toks := tk' }) :
    wpAny (model PySem.Challenge.rw_pb0191_01.row.prog w) (ktrTop dp un gd cn cs L a ccd cl outer)
      (call (.ref 134) [.ref sc, .int at' ta, .int step ts, .ref tl]) Q E s := by
  obtain ⟨B, F, X, N, T, hk, hd, hu⟩ := C
  revert X; k_fill; intro X
  refine wpAny_call ?_
  k_dflt ktr_enter
  k_steps
  refine Here.on ?_
  rcases ht with ⟨its, nn, hm, hsz, hit⟩ | ⟨rfl, nn, hm⟩
  · (rename Fr _ _ _ _ => lF')
    (rename News _ _ _ _ => lN')
    refine' iterG_list (σ := Int × Tok) (by rfl) hm lF' lN' (fun c => [(Str.ofString "here", .int c.1 c.2)]) []
      (fun i c nx => nx = news ∧ 0 ≤ c.1 ∧ c.1 < rows.length ∧ scanAll rows (fun g => ign flag (gcl f g)) step (ps.drop i) c.1 = scanAll rows (fun g => ign flag (gcl f g)) step ps at')
      (_, _) ?kk ?kp ?_ ?_
    case kk => kst_all
    case kp => exact ⟨rfl, h0, h1, rfl⟩
    · clear lF' lN'
      rintro ⟨here, th⟩ i v u nx own led I oI h tk hi hv ⟨rfl, p1, p2, p3⟩ hI hled ho hn F₁ N₁
      dsimp only at p1 p2 p3
      rw [hsz] at hi
      obtain ⟨x, hx, hxt⟩ := hit i hi
      obtain rfl : v = .ref x := by rw [hx] at hv; exact (Option.some.inj hv).symm
      have hs' := hs.mono hn
      have ht' := hxt.mono hn
      (try k_fold)
      k_steps
      · rename (_ : Int) = scan _ _ _ _ _ _ => e1
        rw [drop_getD (d := noT) hi, scanAll, ← e1, if_pos (by assumption)] at p3
        exact ret _ _ _ _ p3 (by assumption) (kst_newsOf (by assumption) hn)
      · rename (_ : Int) = scan _ _ _ _ _ _ => e1
        have hr := scan_range (rows := rows) (ig := fun g => ign flag (gcl f g)) (p := ps.getD i noT) (step := step) 10 (here + step)
        rw [drop_getD (d := noT) hi, scanAll, ← e1, if_neg (by assumption)] at p3
        rw [← e1] at hr
        exact Here.on (gEnd (_, _) nx (by assumption) (by assumption) ho hn hI (by kst_all)
          (by intro z z1 z2 z3; have z4 := z2 _ (List.mem_singleton.mpr rfl); dsimp only at z4 z1; simp [kstB, z4, z1])
          ⟨rfl, by dsimp only; omega, by dsimp only; omega, p3⟩)
    · clear lF' lN'
      rintro ⟨here, th⟩ u nx h tk ⟨rfl, p1, p2, p3⟩ F₁ N₁
      dsimp only at p1 p2 p3
      rw [hsz, List.drop_length, scanAll] at p3
      (try k_fold)
      k_steps
      exact ret _ _ _ _ p3 (by assumption) (by row_tight)
  · (rename Fr _ _ _ _ => lF')
    (rename News _ _ _ _ => lN')
    refine' iterG_tup (σ := Unit) (by rfl) hm lF' lN' (fun c => []) [] (fun i c nx => nx = news) () ?kk ?kp ?_ ?_
    case kk => kst_all
    case kp => rfl
    · intro c i v u nx own led I oI h tk hi
      exact absurd hi (by simp)
    · clear lF' lN'
      rintro - u nx h tk rfl F₁ N₁
      (try k_fold)
      k_steps
      exact ret _ _ _ _ rfl (by assumption) (by row_tight)

local macro_rules | `(tactic| walk_at "call ref") => `(tactic| (
  k_here
  (with_reducible show wpAny _ _ (call (Value.ref 134) _) _ _ _)
  k_dflt (refine' last_at_spec ?cC ?ch ?ct ?cf ?c0 ?c1 ?c2 ?cs ?_; (case cC => tb_start); (case ch => k_asm); (case ct => k_asm); (case cf => k_asm); (case c0 => omega); (case c1 => omega); (case c2 => omega); (case cs => first | exact .inl rfl | exact .inr rfl); k_whole
          intro r t' h' tk' er' F' N'; (try dsimp only); (try k_fold))))

theorem ahead_at_spec {sc tl : Addr} {flag at' : Int} {ta : Tok} {f : Int → Int} {ps : List (Int → Bool)} {rows : List (Int × Str)}
    (C : Cx w A₀ base h₀ outer L m mg mb mean news s cs dp un 14) (hs : ScAt w news sc flag f rows) (ht : TestsAt w news tl ps)
    (hf : flag = 0 ∨ flag = 2 ∨ flag = 4 ∨ flag = 8) (h0 : 0 ≤ at') (h1 : at' < rows.length) (h2 : (rows.length : Int) ≤ 8)
    (ret : ∀ r t h' tk', r = scanAll rows (fun g => ign flag (gcl f g)) 1 ps at' → Fr h₀ L h' m → News h₀ L h' news → Q (.int r t) { s with heap := h', toks := tk' }) :
    wpAny (model PySem.Challenge.rw_pb0191_01.row.prog w) (ktrTop dp un gd cn cs L a ccd cl outer)
      (call (.ref 141) [.ref sc, .int at' ta, .ref tl]) Q E s := by
  obtain ⟨B, F, X, N, T, hk, hd, hu⟩ := C
  revert X; k_fill; intro X
  refine wpAny_call ?_
  k_dflt ktr_enter
  k_steps
  all_goals exact ret _ _ _ _ (by assumption) (by assumption) (by row_tight)

theorem back_at_spec {sc tl : Addr} {flag at' : Int} {ta : Tok} {f : Int → Int} {ps : List (Int → Bool)} {rows : List (Int × Str)}
    (C : Cx w A₀ base h₀ outer L m mg mb mean news s cs dp un 14) (hs : ScAt w news sc flag f rows) (ht : TestsAt w news tl ps)
    (hf : flag = 0 ∨ flag = 2 ∨ flag = 4 ∨ flag = 8) (h0 : 0 ≤ at') (h1 : at' < rows.length) (h2 : (rows.length : Int) ≤ 8)
    (ret : ∀ r t h' tk', r = scanAll rows (fun g => ign flag (gcl f g)) (-1) ps at' → Fr h₀ L h' m → News h₀ L h' news → Q (.int r t) { s with heap := h', toks := tk' }) :
    wpAny (model PySem.Challenge.rw_pb0191_01.row.prog w) (ktrTop dp un gd cn cs L a ccd cl outer)
      (call (.ref 148) [.ref sc, .int at' ta, .ref tl]) Q E s := by
  obtain ⟨B, F, X, N, T, hk, hd, hu⟩ := C
  revert X; k_fill; intro X
  refine wpAny_call ?_
  k_dflt ktr_enter
  k_steps
  all_goals exact ret _ _ _ _ (by assumption) (by assumption) (by row_tight)

end
end Mine
theorem Mine.anew_B3 : True := by
  w_top off
  first | (walk1; done) | trivial

open PySem PySem.W PySem.Spec PySem.Calls PyProof.Rows PyProof.V
set_option Elab.async false
set_option maxRecDepth 100000
set_option maxHeartbeats 8000000
namespace Mine

local macro_rules | `(tactic| tb_start) => `(tactic| (
  refine' Cx.mk ?cxB ?cxF ?cxX ?cxN ?cxT ?cxk ?cxd ?cxu
  (case cxB => k_asm); (case cxF => k_asm); (case cxX => k_asm); (case cxN => k_asm); (case cxT => k_asm)
  (case cxk => first | exact rfl | assumption); (case cxd => ktr_room); (case cxu => ktr_units)))
local macro_rules | `(tactic| row_tight) => `(tactic| first
  | assumption
  | exact kst_newsOf (by assumption) (by intro p hp; simp only [List.mem_cons, hp, or_true, true_or]))

section
variable {w : World} {dp un : Nat} {gd : Option (List Code)} {cn : Str} {cs : Scope} {a : Addr} {ccd : Value}
  {cl : List (Str × Addr)} {outer : List Env} {A₀ : Around} {base h₀ : Heap} {L : Addr}
  {m mg mb : Str → Option Value} {mean : ExcName → Option Value} {news : List (Addr × Obj)} {s : Shared}
  {Q E : Value → Shared → Prop}

local macro_rules | `(tactic| row_tame_look) => `(tactic| first
  | with_reducible assumption
  | exact ScAt.mono (by with_reducible assumption) (by intro p hp; simp only [List.mem_cons, hp, or_true, true_or])
  | exact TestsAt.mono (by with_reducible assumption) (by intro p hp; simp only [List.mem_cons, hp, or_true, true_or])
  | exact TestAt.mono (by with_reducible assumption) (by intro p hp; simp only [List.mem_cons, hp, or_true, true_or]))

local macro_rules | `(tactic| row_head_pins) => `(tactic| first | with_reducible assumption | with_reducible exact List.mem_cons_self | ((with_reducible refine List.mem_cons_of_mem _ ?_); row_head_pins))

theorem isL_news {l : Addr} {its : Array Value} {n : Nat} (N : News h₀ L s.heap news) (hm : (l, listOf its n) ∈ news) : s.heap.IsList l its := News.isList (n := n) N hm

theorem item_lit {A : Around} {prog : Program} {value slice : PySem.Expr} {l : Addr} {its : Array Value} {n : Nat} {k : Int} {u : Tok} {x : Value}
    (N : News h₀ L s.heap news) (hm : (l, listOf its n) ∈ news) (h0 : 0 ≤ k) (hfit : k < 2 ^ 63) (hx : its[k.toNat]? = some x)
    (h : Q x s)
    (hs : subscripted slice false (.ref l) (.int k u) = operate [.ref l, .int k u] (getItem (.ref l) (.int k u)) := by with_unfolding_all rfl) :
    wpAny (model prog w) A (subscriptTail value slice (.ref l) (.int k u)) Q E s := by
  have hL := News.isList (n := n) N hm
  exact tail_any hL.typeIs slot_list_getitem.lookup (wpAny_getItem_list hL h0 hfit hx h) hs

local macro_rules | `(tactic| k_get) => `(tactic| with_reducible assumption)
local macro_rules | `(tactic| walk_at "subscriptTail") => `(tactic| (
  k_here
  (with_reducible show wpAny _ _ (subscriptTail _ _ (Value.ref _) (Value.int _ _)) _ _ _)
  k_dflt (refine' item_lit ?k1 ?k2 ?k3 ?k4 ?k5 ?_ ?k6; (case k1 => k_asm); (case k2 => row_head_pins); (case k3 => decide); (case k4 => decide); (case k5 => exact rfl); (case k6 => with_unfolding_all rfl); k_whole)))
local macro_rules | `(tactic| walk_at "subscriptTail") => `(tactic| (
  k_here
  (with_reducible show wpAny _ _ (subscriptTail _ _ (Value.ref _) (Value.int _ _)) _ _ _)
  k_dflt (refine' item_row ?k1 ?k2 ?k3 ?k4 ?k5 ?_ ?k6; (case k1 => k_asm); (case k2 => with_reducible assumption); (case k3 => omega); (case k4 => omega); (case k5 => omega); (case k6 => with_unfolding_all rfl); k_whole
          intro x' di' es' n' tg' tk' tm' i1' i2' i3' i4' i5'; (try dsimp only); (try k_fold))))
local macro_rules | `(tactic| walk_at "subscriptTail Name Slice ref ref") => `(tactic| (k_here; (with_reducible show wpAny _ _ (subscriptTail _ (PySem.Expr.Slice _ _ none _) (Value.ref _) (Value.ref _)) _ _ _); k_dflt (refine' kms_slice_lit ?F ?N ?l ?p ?q ?e ?_ ?s ?t ?z; (case F => k_asm); (case N => k_asm); (case l => exact isL_news (by k_asm) (by row_head_pins)); (case p => kmk_part); (case q => kmk_part); (case e => kl_lit); (case s => with_unfolding_all rfl); (case t => kmk_pure); (case z => exact Nat.le_of_ble_eq_true rfl)); intro D' h' F' N' l1; (try k_lt l1); (try k_sweep)))
local macro_rules | `(tactic| walk_at "exec For Name Subscript cons nil") => `(tactic| (k_here; (rename Fr _ _ _ _ => lF'); (with_unfolding_all refine' For_invVF lF' ?k1 ?k2 ?_; (case k1 => exact rfl); (case k2 => exact rfl); k_whole)))
local macro_rules | `(tactic| walk_at "pyIter ref") => `(tactic| (k_here; (with_reducible show wpAny _ _ (pyIter (Value.ref _)) _ _ _); (rename Fr _ _ _ _ => lF'); (rename News _ _ _ _ => lN'); k_dflt (refine' iterG_nil ?k1 ?k2 lF' lN' ?_; (case k1 => exact rfl); (case k2 => row_head_pins); k_whole); intro u' h' tk' F' N'; (try dsimp only); (try k_fold)))
local macro_rules | `(tactic| walk_at "call ref") => `(tactic| (
  k_here
  (with_reducible show wpAny _ _ (call (Value.ref 106) _) _ _ _)
  k_dflt (refine' fits_spec ?cC ?ch ?_; (case cC => tb_start); (case ch => k_asm); k_whole
          intro r h' tk' er' F' N'; (try dsimp only); (try k_fold))))

theorem input_at_spec {sc il x : Addr} {flag at' : Int} {ta : Tok} {f : Int → Int} {p : Int → Bool} {rows : List (Int × Str)} {ni : Nat}
    (C : Cx w A₀ base h₀ outer L m mg mb mean news s cs dp un 12) (hs : ScAt w news sc flag f rows)
    (hi : (il, listOf #[.ref x] ni) ∈ news) (ht : TestAt w news x p)
    (h0 : 0 ≤ at') (h1 : at' < rows.length) (h2 : (rows.length : Int) ≤ 8)
    (ret0 : ∀ h' tk', p (getg rows at') = false → Fr h₀ L h' m → News h₀ L h' news → Q .none { s with heap := h', toks := tk' })
    (ret1 : ∀ d t n' h' tk', p (getg rows at') = true → (∀ q ∈ news, q.1 < d) → Fr h₀ L h' m → News h₀ L h' ((d, listOf #[.int at' t] n') :: news) → Q (.ref d) { s with heap := h', toks := tk' }) :
    wpAny (model PySem.Challenge.rw_pb0191_01.row.prog w) (ktrTop dp un gd cn cs L a ccd cl outer)
      (call (.ref 127) [.ref sc, .int at' ta, .ref il]) Q E s := by
  obtain ⟨B, F, X, N, T, hk, hd, hu⟩ := C
  obtain ⟨ds, b, g, lk, _, _, _, _, _, _, _, _, _, _, _, _, _, _, _, _, _, _, _, i1, i2, i3, i4, i5⟩ := id hs
  obtain ⟨_, _, _, _, _, _, _, _, _, _, _, _, _, _, j1, j2, j3⟩ := id i3
  revert X; k_fill; intro X
  refine wpAny_call ?_
  k_dflt ktr_enter
  k_steps
  · rename (_ : Bool) = p _ => e1
    exact ret1 _ _ _ _ _ (by unfold getg; rw [← e1]; assumption) (by assumption) (by assumption)
      (kst_newsOf (by assumption) (by intro q hq; exact List.mem_cons_of_mem _ hq))
  · rename (_ : Bool) = p _ => e1
    exact ret0 _ _ (by unfold getg; rw [← e1]; assumption) (by assumption) (by row_tight)

local macro_rules | `(tactic| walk_at "call ref") => `(tactic| (
  k_here
  (with_reducible show wpAny _ _ (call (Value.ref 127) _) _ _ _)
  k_dflt (refine' input_at_spec ?cC ?ch ?ci ?ct ?c0 ?c1 ?c2 ?r0 ?r1; (case cC => tb_start); (case ch => k_asm); (case ci => row_head_pins); (case ct => k_asm); (case c0 => omega); (case c1 => omega); (case c2 => omega)
          (case' r0 => k_whole; intro h' tk' er' F' N'; (try dsimp only); (try k_fold))
          (case' r1 => k_whole; intro d' t' n' h' tk' er' l1 F' N'; (try dsimp only); (try k_lt l1); (try k_fold)))))
local macro_rules | `(tactic| walk_at "call ref") => `(tactic| (
  k_here
  (with_reducible show wpAny _ _ (call (Value.ref 141) _) _ _ _)
  k_dflt (refine' ahead_at_spec ?cC ?ch ?ct ?cf ?c0 ?c1 ?c2 ?_; (case cC => tb_start); (case ch => row_tame_look); (case ct => row_tame_look); (case cf => k_asm); (case c0 => omega); (case c1 => omega); (case c2 => omega); k_whole
          intro r t' h' tk' er' F' N'; (try dsimp only); (try k_fold))))
local macro_rules | `(tactic| walk_at "call ref") => `(tactic| (
  k_here
  (with_reducible show wpAny _ _ (call (Value.ref 148) _) _ _ _)
  k_dflt (refine' back_at_spec ?cC ?ch ?ct ?cf ?c0 ?c1 ?c2 ?_; (case cC => tb_start); (case ch => row_tame_look); (case ct => row_tame_look); (case cf => k_asm); (case c0 => omega); (case c1 => omega); (case c2 => omega); k_whole
          intro r t' h' tk' er' F' N'; (try dsimp only); (try k_fold))))

theorem match_rule_spec {sc il x tt bl al : Addr} {flag at' : Int} {ta : Tok} {f : Int → Int} {p : Int → Bool} {bs as : List (Int → Bool)} {rows : List (Int × Str)} {ni nt : Nat} {va : Value}
    (C : Cx w A₀ base h₀ outer L m mg mb mean news s cs dp un 16) (hs : ScAt w news sc flag f rows)
    (htt : (tt, tupObj [.ref bl, .ref il, .ref al, va] nt) ∈ news)
    (hb : TestsAt w news bl bs) (ha : TestsAt w news al as)
    (hi : (il, listOf #[.ref x] ni) ∈ news) (ht : TestAt w news x p)
    (hf : flag = 0 ∨ flag = 2 ∨ flag = 4 ∨ flag = 8)
    (h0 : 0 ≤ at') (h1 : at' < rows.length) (h2 : (rows.length : Int) ≤ 8)
    (ret0 : ∀ h' tk', ¬ (p (getg rows at') = true ∧ 0 ≤ scanAll rows (fun g => ign flag (gcl f g)) (-1) bs at' ∧ 0 ≤ scanAll rows (fun g => ign flag (gcl f g)) 1 as at') →
      Fr h₀ L h' m → News h₀ L h' news → Q .none { s with heap := h', toks := tk' })
    (ret1 : ∀ d pl t t1 t2 n' n'' b e h' tk', p (getg rows at') = true → 0 ≤ b → 0 ≤ e →
      b = scanAll rows (fun g => ign flag (gcl f g)) (-1) bs at' → e = scanAll rows (fun g => ign flag (gcl f g)) 1 as at' →
      (∀ q ∈ news, q.1 < pl) → (∀ q ∈ news, q.1 < d) → pl < d → Fr h₀ L h' m →
      News h₀ L h' ((d, tupObj [.ref pl, .int b t1, .int e t2] n'') :: (pl, listOf #[.int at' t] n') :: news) → Q (.ref d) { s with heap := h', toks := tk' }) :
    wpAny (model PySem.Challenge.rw_pb0191_01.row.prog w) (ktrTop dp un gd cn cs L a ccd cl outer)
      (call (.ref 155) [.ref sc, .int at' ta, .ref tt]) Q E s := by
  obtain ⟨B, F, X, N, T, hk, hd, hu⟩ := C
  revert X; k_fill; intro X
  refine wpAny_call ?_
  k_dflt ktr_enter
  k_steps
  · rename _ = scanAll _ _ (-1) _ _ => e1
    exact ret0 _ _ (fun q => by have := q.2.1; omega) (by assumption) (by row_tight)
  · rename _ = scanAll _ _ 1 _ _ => e1
    exact ret0 _ _ (fun q => by have := q.2.2; omega) (by assumption) (by row_tight)
  · rename _ = scanAll _ _ (-1) _ _ => e1
    rename _ = scanAll _ _ 1 _ _ => e2
    rename (_ : Addr) < _ ∧ AllLt _ _ => l2
    exact ret1 _ _ _ _ _ _ _ _ _ _ _ (by assumption) (by omega) (by omega) e1 e2 (by assumption) (allLt_mem l2.2) l2.1 (by assumption) (by assumption)
  · exact ret0 _ _ (fun q => by have := q.1; simp_all) (by assumption) (by row_tight)

end
end Mine
theorem Mine.anew_B4 : True := by
  w_top off
  first | (walk1; done) | trivial

open PySem PySem.W PySem.Spec PySem.Calls PyProof.Rows PyProof.V
namespace Mine

theorem getD_rev {rows : List (Int × Str)} {i : Int} (h0 : 0 ≤ i) (h1 : i < rows.length) :
    rows.reverse.getD ((rows.length : Int) - 1 - i).toNat d0 = rows.getD i.toNat d0 := by
  have h : ((rows.length : Int) - 1 - i).toNat < rows.reverse.length := by simp; omega
  have h' : i.toNat < rows.length := by omega
  rw [List.getD_eq_getElem?_getD, List.getD_eq_getElem?_getD, List.getElem?_reverse (by simpa using h)]
  congr 2
  omega

def mir (n r : Int) : Int := if r < 0 then -1 else n - 1 - r

theorem scan_rev {rows : List (Int × Str)} {ig p : Int → Bool} {step : Int} : ∀ (n : Nat) (here : Int),
    scan rows.reverse ig p (-step) n ((rows.length : Int) - 1 - here) = mir rows.length (scan rows ig p step n here)
  | 0, here => by simp [scan, mir]
  | n + 1, here => by
    by_cases h : 0 ≤ here ∧ here < rows.length
    · have h' : 0 ≤ (rows.length : Int) - 1 - here ∧ (rows.length : Int) - 1 - here < rows.reverse.length := by
        rw [List.length_reverse]; omega
      have eg : getg rows.reverse ((rows.length : Int) - 1 - here) = getg rows here := by unfold getg; rw [getD_rev h.1 h.2]
      have ek : getk rows.reverse ((rows.length : Int) - 1 - here) = getk rows here := by unfold getk; rw [getD_rev h.1 h.2]
      have es : (rows.length : Int) - 1 - here + -step = (rows.length : Int) - 1 - (here + step) := by omega
      have ih := scan_rev (rows := rows) (ig := ig) (p := p) (step := step) n (here + step)
      cases hi : ig (getg rows here) with
      | true => rw [scan_ig h'.1 h'.2 (by rw [eg]; exact hi), scan_ig h.1 h.2 hi, es, ih]
      | false =>
        cases hp : p (getg rows here) with
        | true =>
          rw [scan_hit h'.1 h'.2 (by rw [eg]; exact hi) (by rw [eg]; exact hp), scan_hit h.1 h.2 hi hp]
          unfold mir; rw [if_neg (by omega)]
        | false =>
          cases hk : kar (getk rows here) with
          | true => rw [scan_on h'.1 h'.2 (by rw [eg]; exact hi) (by rw [eg]; exact hp) (by rw [ek]; exact hk), scan_on h.1 h.2 hi hp hk, es, ih]
          | false => rw [scan_off h'.1 h'.2 (by rw [eg]; exact hi) (by rw [eg]; exact hp) (by rw [ek]; exact hk), scan_off h.1 h.2 hi hp hk]; simp [mir]
    · rw [scan_out h, scan_out (by rw [List.length_reverse]; omega)]; simp [mir]

theorem scanAll_rev {rows : List (Int × Str)} {ig : Int → Bool} {step : Int} : ∀ (ps : List (Int → Bool)) (here : Int), 0 ≤ here → here < rows.length →
    scanAll rows.reverse ig (-step) ps ((rows.length : Int) - 1 - here) = mir rows.length (scanAll rows ig step ps here)
  | [], here, h0, h1 => by simp only [scanAll]; unfold mir; rw [if_neg (by omega)]
  | p :: ps, here, h0, h1 => by
    have e := scan_rev (rows := rows) (ig := ig) (p := p) (step := step) 10 (here + step)
    have es : (rows.length : Int) - 1 - here + -step = (rows.length : Int) - 1 - (here + step) := by omega
    have hr := scan_range (rows := rows) (ig := ig) (p := p) (step := step) 10 (here + step)
    unfold scanAll
    rw [es, e]
    by_cases h : scan rows ig p step 10 (here + step) < 0
    · rw [if_pos h, if_pos (by unfold mir; rw [if_pos h]; decide)]; simp [mir]
    · have e2 : mir rows.length (scan rows ig p step 10 (here + step)) = rows.length - 1 - scan rows ig p step 10 (here + step) := by unfold mir; rw [if_neg h]
      rw [if_neg h, e2, if_neg (by omega)]
      exact scanAll_rev ps _ (by omega) (by omega)

theorem scanAll_range {rows : List (Int × Str)} {ig : Int → Bool} {step : Int} : ∀ (ps : List (Int → Bool)) (here : Int), 0 ≤ here → here < rows.length →
    scanAll rows ig step ps here = -1 ∨ (0 ≤ scanAll rows ig step ps here ∧ scanAll rows ig step ps here < rows.length)
  | [], here, h0, h1 => .inr ⟨h0, h1⟩
  | p :: ps, here, h0, h1 => by
    have hr := scan_range (rows := rows) (ig := ig) (p := p) (step := step) 10 (here + step)
    unfold scanAll
    split
    · exact .inl rfl
    · exact scanAll_range ps _ (by omega) (by omega)

end Mine
theorem Mine.anew_P : True := by
  w_top off
  first | (walk1; done) | trivial

open PySem PySem.W PySem.Spec PySem.Calls PyProof.Rows PyProof.V
set_option Elab.async false
set_option maxRecDepth 100000
set_option maxHeartbeats 8000000
namespace Mine

def PoolO (o : Obj) : Prop :=
  ∃ (vs : List Value) (ns : List Int) (n : Nat), o = listOf vs.toArray n ∧ IntsAre vs ns ∧ ns.length ≤ 24 ∧ ∀ x ∈ ns, 0 ≤ x ∧ x < 10 ^ 80

section
variable {w : World} {dp un : Nat} {gd : Option (List Code)} {cn : Str} {cs : Scope} {a : Addr} {ccd : Value}
  {cl : List (Str × Addr)} {outer : List Env} {A₀ : Around} {base h₀ : Heap} {L : Addr}
  {m mg mb : Str → Option Value} {mean : ExcName → Option Value} {news : List (Addr × Obj)} {s : Shared}
  {Q E : Value → Shared → Prop}

local macro_rules | `(tactic| k_all) => `(tactic| assumption)

theorem pop0_news {A : Around} {prog : Program} {D : Addr} {n : Nat} {y : Value} {q : List Value} {rest : List (Addr × Obj)} {u : Tok} (F : Fr h₀ L s.heap m)
    (N : News h₀ L s.heap ((D, listOf (y :: q).toArray n) :: rest)) (hne : ∀ p ∈ rest, p.1 ≠ D) (hz : q.length < 1000)
    (h : ∀ h', Fr h₀ L h' m → News h₀ L h' ((D, listOf q.toArray (n + 1)) :: rest) → Q y { s with heap := h' }) :
    wpAny (model prog w) A (call (.builtin "list.pop") [.ref D, .int 0 u]) Q E s := by
  refine kl_popAt (k := 0) (p := []) (q := q) (y := y) F N (by decide) (by simp [seqIndex?]) rfl (.head hne) ?_ h
  rw [PySem.sizeLine_eq]
  simp only [List.length_cons]
  omega

theorem pool_set {ns : List Int} {q : Int} {many : Int} (hlen : ns.length ≤ 24) (hns : ∀ x ∈ ns, 0 ≤ x ∧ x < 10 ^ 80) (hm : 0 < many) (hq : q = (ns.getD 0 0).fdiv many) :
    (ns.set 0 q).length ≤ 24 ∧ ∀ x ∈ ns.set 0 q, 0 ≤ x ∧ x < 10 ^ 80 := by
  refine ⟨by rw [List.length_set]; exact hlen, fun x hx => ?_⟩
  cases ns with
  | nil => exact absurd hx (by simp)
  | cons y ns =>
    rcases List.mem_cons.1 hx with rfl | hx
    · have h := hns y (.head _)
      rw [hq]
      simp only [List.getD_cons_zero]
      rw [Int.fdiv_eq_ediv_of_nonneg _ (by omega)]
      exact ⟨Int.ediv_nonneg h.1 (by omega), Int.lt_of_le_of_lt (Int.ediv_le_self _ h.1) h.2⟩
    · exact hns x (.tail _ hx)

theorem law_take_spec {pl : Addr} {o : Obj} {rest : List (Addr × Obj)} {many : Int} {tm : Tok}
    (C : Cx w A₀ base h₀ outer L m mg mb mean ((pl, o) :: rest) s cs dp un 2)
    (hne : ∀ p ∈ rest, p.1 ≠ pl) (hP : PoolO o) (hm : 0 < many ∧ many ≤ 8)
    (ret : ∀ d t o' h' tk', 0 ≤ d → d < many → PoolO o' → Fr h₀ L h' m → News h₀ L h' ((pl, o') :: rest) → Q (.int d t) { s with heap := h', toks := tk' }) :
    wpAny (model PySem.Challenge.rw_pb0191_01.row.prog w) (ktrTop dp un gd cn cs L a ccd cl outer)
      (call (.ref 345) [.ref pl, .int many tm]) Q E s := by
  obtain ⟨B, F, X, N, T, hk, hd, hu⟩ := C
  obtain ⟨vs, ns, n, rfl, hi, hlen, hns⟩ := hP
  revert X; k_fill; intro X
  refine wpAny_call ?_
  k_dflt ktr_enter
  k_steps
  · exact ret _ _ _ _ _ (by omega) (by omega) ⟨vs, ns, n, rfl, hi, hlen, hns⟩ (by assumption) (by assumption)
  · rename IntsAre (vs.set _ _) _ => hi2
    have hd1 := fmod_lo (ns.getD 0 0) hm.1
    have hd2 := fmod_hi (ns.getD 0 0) hm.1
    have hset := pool_set hlen hns hm.1 rfl
    obtain ⟨x0, ns', rfl⟩ : ∃ x0 ns', ns = x0 :: ns' := by
      cases ns with
      | nil => rename (_ : Int) ≠ 0 => e; exact absurd rfl e
      | cons x0 ns' => exact ⟨x0, ns', rfl⟩
    obtain ⟨v0, vs', rfl⟩ : ∃ v0 vs', vs = v0 :: vs' := by
      cases hi with
      | cons k t r => exact ⟨_, _, rfl⟩
    have hl' := hi.length
    simp only [List.length_cons] at hl' hlen
    have hi3 : IntsAre vs' ns' := by cases hi with | cons k t r => exact r
    k_here
    refine pop0_news (by assumption) (by assumption) hne (by omega) ?_
    intro h' F' N'
    (try dsimp only); (try k_fold)
    k_steps
    exact ret _ _ _ _ _ hd1 hd2 ⟨vs', ns', _, rfl, hi3, by omega, fun x hx => hns x (.tail _ hx)⟩ (by assumption) (by assumption)
  · have hd1 := fmod_lo (ns.getD 0 0) hm.1
    have hd2 := fmod_hi (ns.getD 0 0) hm.1
    have hset := pool_set hlen hns hm.1 rfl
    exact ret _ _ _ _ _ hd1 hd2 ⟨_, _, n, rfl, by assumption, hset.1, hset.2⟩ (by assumption) (by assumption)

end
end Mine
theorem Mine.anew_B5 : True := by
  w_top off
  first | (walk1; done) | trivial

open PySem PySem.W PySem.Spec PySem.Calls PyProof.Rows PyProof.V
set_option Elab.async false
set_option maxRecDepth 100000
set_option maxHeartbeats 8000000
namespace Mine

local macro_rules | `(tactic| tb_start) => `(tactic| (
  refine' Cx.mk ?cxB ?cxF ?cxX ?cxN ?cxT ?cxk ?cxd ?cxu
  (case cxB => k_asm); (case cxF => k_asm); (case cxX => k_asm); (case cxN => k_asm); (case cxT => k_asm)
  (case cxk => first | exact rfl | assumption); (case cxd => ktr_room); (case cxu => ktr_units)))
local macro_rules | `(tactic| k_all) => `(tactic| assumption)

section
variable {w : World} {dp un : Nat} {gd : Option (List Code)} {cn : Str} {cs : Scope} {a : Addr} {ccd : Value}
  {cl : List (Str × Addr)} {outer : List Env} {A₀ : Around} {base h₀ : Heap} {L : Addr}
  {m mg mb : Str → Option Value} {mean : ExcName → Option Value} {news : List (Addr × Obj)} {s : Shared}
  {Q E : Value → Shared → Prop}

theorem law_take_U {pl : Addr} {o : Obj} {g : Obj → List (Addr × Obj)} {many : Int} {tm : Tok}
    (C : Cx w A₀ base h₀ outer L m mg mb mean news s cs dp un 2)
    (U : UpdF pl o news g) (hP : PoolO o) (hm : 0 < many ∧ many ≤ 8)
    (ret : ∀ d t o' h' tk', 0 ≤ d → d < many → PoolO o' → Fr h₀ L h' m → News h₀ L h' (g o') → Q (.int d t) { s with heap := h', toks := tk' }) :
    wpAny (model PySem.Challenge.rw_pb0191_01.row.prog w) (ktrTop dp un gd cn cs L a ccd cl outer)
      (call (.ref 345) [.ref pl, .int many tm]) Q E s := by
  obtain ⟨B, F, X, N, T, hk, hd, hu⟩ := C
  obtain ⟨pre, post, rfl, hg, h1, h2⟩ := U.split
  refine law_take_spec (rest := pre ++ post) (o := o) ⟨B, F, X, kst_newsOf N ?_, T, hk, hd, hu⟩ ?_ hP hm ?_
  · intro p hp
    rcases List.mem_cons.mp hp with rfl | hp
    · exact List.mem_append_right _ (.head _)
    · rcases List.mem_append.mp hp with hp | hp
      · exact List.mem_append_left _ hp
      · exact List.mem_append_right _ (.tail _ hp)
  · intro p hp
    rcases List.mem_append.mp hp with hp | hp
    · exact h1 p hp
    · exact h2 p hp
  · intro d t o' h' tk' a1 a2 a3 F' N'
    refine ret d t o' h' tk' a1 a2 a3 F' ?_
    rw [hg]
    refine kst_newsOf N' fun p hp => ?_
    rcases List.mem_append.mp hp with hp | hp
    · exact .tail _ (List.mem_append_left _ hp)
    · rcases List.mem_cons.mp hp with rfl | hp
      · exact .head _
      · exact .tail _ (List.mem_append_right _ hp)

local macro_rules | `(tactic| walk_at "call ref") => `(tactic| (
  k_here
  (with_reducible show wpAny _ _ (call (Value.ref 345) _) _ _ _)
  k_dflt (refine' law_take_U ?cC ?cU ?cP ?cm ?_; (case cC => tb_start); (case cU => k_updF); (case cP => assumption); (case cm => decide); k_whole
          intro d' t' o' h' tk' lo' hi' P' F' N'; (try dsimp only at N'); (try dsimp only); (try k_sweep); (try k_fold))))
local macro_rules | `(tactic| walk_at "exec For Name Call cons nil") => `(tactic| (k_here; (rename Fr _ _ _ _ => lF'); (with_unfolding_all refine' For_invVF lF' ?k1 ?k2 ?_; (case k1 => exact rfl); (case k2 => exact rfl); k_whole)))
local macro_rules | `(tactic| walk_at "call type:range") => `(tactic| (k_here; (rename Fr _ _ _ _ => rF'); (rename News _ _ _ _ => rN'); (with_unfolding_all refine range1_rows rF' rN' ?_); clear rF' rN'; intro h' tk' t1' u1' v1' R' F' N' _))
local macro_rules | `(tactic| walk_at "pyIter ref") => `(tactic| refine Here.off ?_)
local macro_rules | `(tactic| walk_at "GEnd") => `(tactic| refine Here.off ?_)
local macro_rules | `(tactic| walk_at "GPost") => `(tactic| dsimp only [GPost])

def TestsL (w : World) (news : List (Addr × Obj)) (its : List Value) (ps : List (Int → Bool)) : Prop :=
  its.length = ps.length ∧ ∀ i, i < ps.length → ∃ x, its[i]? = some (.ref x) ∧ TestAt w news x (ps.getD i noT)
theorem TestsL.mono {w : World} {news news' : List (Addr × Obj)} {its : List Value} {ps : List (Int → Bool)} (h : TestsL w news its ps) (hs : ∀ p ∈ news, p ∈ news') : TestsL w news' its ps :=
  ⟨h.1, fun i hi => let ⟨x, e, r⟩ := h.2 i hi; ⟨x, e, r.mono hs⟩⟩
theorem TestsL.push {w : World} {news : List (Addr × Obj)} {its : List Value} {ps : List (Int → Bool)} {x : Addr} {p : Int → Bool} (h : TestsL w news its ps) (ht : TestAt w news x p) : TestsL w news (its ++ [.ref x]) (ps ++ [p]) := by
  refine ⟨by simp [h.1], fun i hi => ?_⟩
  rw [List.length_append, List.length_singleton] at hi
  by_cases hlt : i < ps.length
  · obtain ⟨y, e, r⟩ := h.2 i hlt
    refine ⟨y, by rw [List.getElem?_append_left (by rw [h.1]; exact hlt)]; exact e, ?_⟩
    rw [List.getD_eq_getElem?_getD, List.getElem?_append_left hlt, ← List.getD_eq_getElem?_getD]
    exact r
  · have : i = ps.length := by omega
    subst this
    refine ⟨x, by rw [← h.1]; simp, ?_⟩
    simpa using ht

def TInv (w : World) (pl : Addr) (rest : List (Addr × Obj)) (i : Nat) (c : Addr) (nx : List (Addr × Obj)) : Prop :=
  ∃ o' its k ps rest', nx = (c, listOf (List.toArray its) k) :: (pl, o') :: rest' ∧ PoolO o' ∧ (∀ p ∈ rest, p ∈ rest') ∧ (∀ p ∈ rest', p.1 ≠ pl) ∧ (∀ p ∈ rest', p.1 ≠ c) ∧
      its.length = i ∧ TestsL w rest' its ps ∧ @LT.lt Nat instLTNat pl c

theorem TInv.push {x : Str → Prop} {pf : Addr → List (Str × Value)} {stored : List Str} {m₀ m' : Str → Option Value} {I D fl pl : Addr} {oI tup o' : Obj} {rest rest' : List (Addr × Obj)} {i k : Nat}
    {its : List Value} {ps : List (Int → Bool)} {p : Int → Bool} {h' : Heap} {s₁ : Shared} {tk : Nat}
    (F : Fr h₀ L h' m') (N : News h₀ L h' ((D, tup) :: (I, oI) :: (fl, listOf (its.toArray.push (.ref D)) (k + 1)) :: (pl, o') :: rest'))
    (hk : ∀ p ∈ pf fl, m' p.1 = some p.2) (hr : ∀ z, ¬ x z → (∀ p ∈ pf fl, z ≠ p.1) → stored.contains z = false → m' z = m₀ z)
    (hP : PoolO o') (s1 : ∀ p ∈ rest, p ∈ rest') (s2 : ∀ p ∈ rest', p.1 ≠ pl) (s3 : ∀ p ∈ rest', p.1 ≠ fl) (s4 : its.length = i) (s5 : TestsL w rest' its ps)
    (s6 : @LT.lt Nat instLTNat pl fl) (hI : ∀ p ∈ (fl, listOf its.toArray k) :: (pl, o) :: rest', p.1 ≠ I) (hD : I < D ∧ fl < D ∧ pl < D ∧ AllLt D rest')
    (ht : TestAt w ((D, tup) :: rest') D p) :
    GEnd h₀ L x pf stored m₀ I [(I, oI)] (TInv w pl rest (i + 1)) s₁ { s₁ with heap := h', toks := tk } := by
  refine gEnd fl ((fl, listOf (List.toArray (its ++ [.ref D])) (k + 1)) :: (pl, o') :: (D, tup) :: rest') F N ?_ ?_ ?_ hk hr
    ⟨o', its ++ [.ref D], k + 1, ps ++ [p], (D, tup) :: rest', rfl, hP, fun q hq => .tail _ (s1 q hq), ?_, ?_, by simp [s4], (s5.mono fun q hq => .tail _ hq).push ht, s6⟩
  · intro q hq
    rw [List.mem_singleton.mp hq]
    exact .tail _ (.head _)
  · rw [List.push_toArray]
    intro q hq
    simp only [List.mem_cons] at hq ⊢
    rcases hq with h | h | h | h
    · exact .inr (.inr (.inl h))
    · exact .inr (.inr (.inr (.inl h)))
    · exact .inl h
    · exact .inr (.inr (.inr (.inr h)))
  · intro q hq
    rcases List.mem_cons.mp hq with rfl | hq
    · exact hI (fl, listOf its.toArray k) (.head _)
    rcases List.mem_cons.mp hq with rfl | hq
    · exact hI (pl, o) (.tail _ (.head _))
    rcases List.mem_cons.mp hq with rfl | hq
    · exact Nat.ne_of_gt hD.1
    · exact hI q (.tail _ (.tail _ hq))
  · intro q hq
    rcases List.mem_cons.mp hq with rfl | hq
    · exact Nat.ne_of_gt hD.2.2.1
    · exact s2 q hq
  · intro q hq
    rcases List.mem_cons.mp hq with rfl | hq
    · exact Nat.ne_of_gt hD.2.1
    · exact s3 q hq

theorem law_tests_spec {pl cd : Addr} {o : Obj} {rest : List (Addr × Obj)} {f : Int → Int}
    (C : Cx w A₀ base h₀ outer L m mg mb mean ((pl, o) :: rest) s cs dp un 6)
    (hne : ∀ p ∈ rest, p.1 ≠ pl) (hP : PoolO o) (hc : CdAt w rest cd f)
    (ret : ∀ fl ps o' rest' h' tk', PoolO o' → (∀ p ∈ rest, p ∈ rest') → (∀ p ∈ rest', p.1 ≠ pl) → TestsAt w rest' fl ps →
      Fr h₀ L h' m → News h₀ L h' ((pl, o') :: rest') → Q (.ref fl) { s with heap := h', toks := tk' }) :
    wpAny (model PySem.Challenge.rw_pb0191_01.row.prog w) (ktrTop dp un gd cn cs L a ccd cl outer)
      (call (.ref 359) [.ref pl, .ref cd]) Q E s := by
  obtain ⟨B, F, X, N, T, hk, hd, hu⟩ := C
  revert X; k_fill; intro X
  refine wpAny_call ?_
  k_dflt ktr_enter
  k_steps
  refine Here.on ?_
  rename PoolO _ => hP0
  rename (_ : Addr) < _ ∧ AllLt _ _ => l0
  rename IsRange _ _ _ _ _ _ _ _ => hR
  rename (0 : Int) ≤ _ => b1
  rename (_ : Int) < 4 => b2
  rename News _ _ _ ((_, listOf _ _) :: _) => lN'
  (rename Fr _ _ _ _ => lF')
  refine' iterG_rangeD (σ := Addr) (by rfl) hR (by omega) lF' lN' (fun c => [(Str.ofString "found", .ref c)]) []
    (TInv w pl rest) _ ?kk ?kp ?_ ?_
  case kk => kst_all
  case kp =>
    exact ⟨_, [], _, [], rest, rfl, hP0, fun _ h => h, hne, fun p hp => Nat.ne_of_lt (allLt_mem l0.2 p hp), rfl, ⟨rfl, fun i hi => absurd hi (by simp)⟩, l0.1⟩
  · clear lF' lN'
    rintro fl i t u nx I oI h tk hi ⟨o1, its, k, ps, rest', rfl, hP1, s1, s2, s3, s4, s5, s6⟩ hI F₁ N₁
    have hI1 := Nat.lt_or_gt_of_ne (hI _ (.head _))
    have hI2 := Nat.lt_or_gt_of_ne (hI _ (.tail _ (.head _)))
    have hI3 : ∀ p ∈ rest', p.1 ≠ I := fun p hp => hI _ (.tail _ (.tail _ hp))
    dsimp only at hI1 hI2
    (try k_fold)
    k_steps
    k_steps
    · exact Here.on (TInv.push (o := o1) (by assumption) (by assumption) (by kst_all) (by intro z z1 z2 z3; have z4 := z2 _ (List.mem_singleton.mpr rfl); dsimp only at z4 z1; simp [kstB, z4, z1])
        (by assumption) s1 s2 s3 s4 s5 s6 hI (by assumption) (.inl ⟨_, _, _, _, .head _, fun _ => rfl⟩))
    · exact Here.on (TInv.push (o := o1) (by assumption) (by assumption) (by kst_all) (by intro z z1 z2 z3; have z4 := z2 _ (List.mem_singleton.mpr rfl); dsimp only at z4 z1; simp [kstB, z4, z1])
        (by assumption) s1 s2 s3 s4 s5 s6 hI (by assumption) (.inr ⟨_, cd, f, _, _, _, .head _, hc.mono (fun p hp => .tail _ (s1 p hp)), fun _ => rfl⟩))
  · clear lF' lN'
    rintro fl u nx h tk ⟨o1, its, k, ps, rest', rfl, hP1, s1, s2, s3, s4, s5, s6⟩ F₁ N₁
    (try k_fold)
    k_steps
    refine ret fl ps o1 ((fl, listOf (List.toArray its) k) :: rest') _ _ hP1 (fun p hp => .tail _ (s1 p hp)) ?_ ?_ (by assumption) ?_
    · intro q hq
      rcases List.mem_cons.mp hq with rfl | hq
      · exact Nat.ne_of_gt s6
      · exact s2 q hq
    · refine .inl ⟨_, _, .head _, by rw [List.size_toArray]; exact s5.1, fun i hi => ?_⟩
      obtain ⟨x, e, r⟩ := s5.2 i hi
      exact ⟨x, by simpa using e, r.mono fun p hp => .tail _ hp⟩
    · refine kst_newsOf (by assumption) fun q hq => ?_
      simp only [List.mem_cons] at hq ⊢
      rcases hq with h | h | h
      · exact .inr (.inl h)
      · exact .inl h
      · exact .inr (.inr h)

end
end Mine
theorem Mine.anew_B6 : True := by
  w_top off
  first | (walk1; done) | trivial

open PySem PySem.W PySem.Spec PySem.Calls PyProof.Rows PyProof.V
set_option Elab.async false
set_option maxRecDepth 100000
set_option maxHeartbeats 8000000
namespace Mine

local macro_rules | `(tactic| tb_start) => `(tactic| (
  refine' Cx.mk ?cxB ?cxF ?cxX ?cxN ?cxT ?cxk ?cxd ?cxu
  (case cxB => k_asm); (case cxF => k_asm); (case cxX => k_asm); (case cxN => k_asm); (case cxT => k_asm)
  (case cxk => first | exact rfl | assumption); (case cxd => ktr_room); (case cxu => ktr_units)))
local macro_rules | `(tactic| row_tight) => `(tactic| first
  | assumption
  | exact And.right (by assumption)
  | exact And.right (And.right (by assumption))
  | exact And.right (And.right (And.right (by assumption)))
  | exact And.right (And.right (And.right (And.right (by assumption))))
  | exact And.right (And.right (And.right (And.right (And.right (by assumption)))))
  | exact And.right (And.right (And.right (And.right (And.right (And.right (by assumption))))))
  | exact And.right (And.right (And.right (And.right (And.right (And.right (And.right (by assumption)))))))
  | exact And.right (And.right (And.right (And.right (And.right (And.right (And.right (And.right (by assumption))))))))
  | exact And.right (And.right (And.right (And.right (And.right (And.right (And.right (And.right (And.right (by assumption))))))))))
local macro_rules | `(tactic| row_head_pins) => `(tactic| first | with_reducible assumption | with_reducible exact List.mem_cons_self | ((with_reducible refine List.mem_cons_of_mem _ ?_); row_head_pins))
local macro_rules | `(tactic| row_walkg) => `(tactic| (refine' code_def ?k1 ?k2 ?k3 ?k4 ?k5 ?kA ?kF ?kK ?k6 ?k7 ?k8 ?k9 ?kB ?_ ?c2 ?c3 ?c4 ?c5; (case kA => exact rfl); (case kF => exact rfl); (case kK => first | exact rfl | assumption); (case k1 => k_asm); (case k2 => k_asm); (case k3 => k_asm); (case k4 => k_asm); (case k5 => k_asm); (case k6 => k_is); (case k7 => k_is); (case k8 => ktr_room); (case k9 => first | exact BindsTo.of_eq rfl | exact binds_K (by k_in) rfl (by k_is) rfl rfl rfl); (case c5 => decide); (case kB => exact locs rfl); (case c2 => exact rfl); (case c3 => exact rfl); (case c4 => exact rfl); k_whole; intro g' L' h' FG' F' N' B' X' T'; (try dsimp only); (try k_fold)))
local macro_rules | `(tactic| k_mem) => `(tactic| row_head_pins)
local macro_rules | `(tactic| k_all) => `(tactic| first | assumption | exact fun p hp => Nat.ne_of_lt (allLt_mem (by row_tight) p hp))

def RowsAt (news : List (Addr × Obj)) (rl : Addr) (rows : List (Int × Str)) : Prop :=
  ∃ (its : Array Value) (n : Nat), (rl, listOf its n) ∈ news ∧ its.size = rows.length ∧
    ∀ i, i < rows.length → ∃ x t t' n', its[i]? = some (.ref x) ∧ (x, tupObj [.int (rows.getD i d0).1 t, .str (rows.getD i d0).2 t'] n') ∈ news

def HeldAt (w : World) (news : List (Addr × Obj)) (dd : Addr) (f : Int → Int) : Prop :=
  ∃ (od : Obj) (kvs : List (Int × Value)) (D : List (PyData × PyData)), (dd, od) ∈ news ∧ (dd == sysModules) = false ∧
    od.IsDictOf (intKind PySem.Challenge.rw_pb0191_01.row.prog w) kvs ∧ FlatPairs PyData.int kvs D ∧
    ∀ g, (lookup (.int g) D).getD (.int 0) = .int (f g)

def InfL (news : List (Addr × Obj)) (its : List Value) (rows : List (Int × Str)) (i : Nat) : Prop :=
  its.length = i ∧ ∀ j, j < i → ∃ x, its[j]? = some (.ref x) ∧ InAt news x (rows.getD j d0).1 (rows.getD j d0).2

def SInv (news : List (Addr × Obj)) (rows : List (Int × Str)) (i : Nat) (c : Addr) (nx : List (Addr × Obj)) : Prop :=
  ∃ its k rest', nx = (c, listOf (List.toArray its) k) :: rest' ∧ (∀ p ∈ news, p ∈ rest') ∧ (∀ p ∈ rest', p.1 ≠ c) ∧ InfL rest' its rows i

section
variable {w : World} {dp un : Nat} {gd : Option (List Code)} {cn : Str} {cs : Scope} {a : Addr} {ccd : Value}
  {cl : List (Str × Addr)} {outer : List Env} {A₀ : Around} {base h₀ : Heap} {L : Addr}
  {m mg mb : Str → Option Value} {mean : ExcName → Option Value} {news : List (Addr × Obj)} {s : Shared}
  {Q E : Value → Shared → Prop}

theorem SInv.push {x : Str → Prop} {pf : Addr → List (Str × Value)} {stored : List Str} {m₀ m' : Str → Option Value} {I d y fl : Addr} {oI : Obj} {rest' : List (Addr × Obj)} {i k nd : Nat}
    {its : List Value} {rows : List (Int × Str)} {es : List DictEntry} {tg tk tm : Tok} {h' : Heap} {s₁ : Shared} {tt : Nat}
    (F : Fr h₀ L h' m') (N : News h₀ L h' ((y, instObj 186 d) :: (d, dictOf es nd) :: (I, oI) :: (fl, listOf (its.toArray.push (.ref y)) (k + 1)) :: rest'))
    (hg : getL "glyph" es = some (some (.int (rows.getD i d0).1 tg))) (hkd : getL "kind" es = some (some (.str (rows.getD i d0).2 tk)))
    (hmk : getL "mask" es = some (some (.int 1 tm)))
    (hk : ∀ p ∈ pf fl, m' p.1 = some p.2) (hr : ∀ z, ¬ x z → (∀ p ∈ pf fl, z ≠ p.1) → stored.contains z = false → m' z = m₀ z)
    (s1 : ∀ p ∈ news, p ∈ rest') (s2 : ∀ p ∈ rest', p.1 ≠ fl) (s3 : InfL rest' its rows i)
    (hI : ∀ p ∈ (fl, listOf its.toArray k) :: rest', p.1 ≠ I) (l1 : I < d ∧ fl < d ∧ AllLt d rest') (l2 : d < y) :
    GEnd h₀ L x pf stored m₀ I [(I, oI)] (SInv news rows (i + 1)) s₁ { s₁ with heap := h', toks := tt } := by
  refine gEnd fl ((fl, listOf (List.toArray (its ++ [.ref y])) (k + 1)) :: (y, instObj 186 d) :: (d, dictOf es nd) :: rest') F N ?_ ?_ ?_ hk hr
    ⟨its ++ [.ref y], k + 1, (y, instObj 186 d) :: (d, dictOf es nd) :: rest', rfl, fun q hq => .tail _ (.tail _ (s1 q hq)), ?_, by simp [s3.1], ?_⟩
  · intro q hq
    rw [List.mem_singleton.mp hq]
    exact .tail _ (.tail _ (.head _))
  · rw [List.push_toArray]
    intro q hq
    simp only [List.mem_cons] at hq ⊢
    rcases hq with h | h | h | h
    · exact .inr (.inr (.inr (.inl h)))
    · exact .inl h
    · exact .inr (.inl h)
    · exact .inr (.inr (.inr (.inr h)))
  · intro q hq
    rcases List.mem_cons.mp hq with rfl | hq
    · exact hI (fl, listOf its.toArray k) (.head _)
    rcases List.mem_cons.mp hq with rfl | hq
    · exact Nat.ne_of_gt (Nat.lt_trans l1.1 l2)
    rcases List.mem_cons.mp hq with rfl | hq
    · exact Nat.ne_of_gt l1.1
    · exact hI q (.tail _ hq)
  · intro q hq
    rcases List.mem_cons.mp hq with rfl | hq
    · exact Nat.ne_of_gt (Nat.lt_trans l1.2.1 l2)
    rcases List.mem_cons.mp hq with rfl | hq
    · exact Nat.ne_of_gt l1.2.1
    · exact s2 q hq
  · intro j hj
    by_cases hlt : j < i
    · obtain ⟨z, e, r⟩ := s3.2 j hlt
      exact ⟨z, by rw [List.getElem?_append_left (by rw [s3.1]; exact hlt)]; exact e, r.mono fun q hq => .tail _ (.tail _ hq)⟩
    · have : j = i := by omega
      subst this
      exact ⟨y, by rw [← s3.1]; simp, d, es, nd, tg, tk, tm, .head _, .tail _ (.head _), hg, hkd, hmk⟩

theorem len_news {A : Around} {prog : Program} {l : Addr} {its : List Value} {n : Nat}
    (N : News h₀ L s.heap news) (hm : (l, listOf its.toArray n) ∈ news) (hfit : its.length < 1000)
    (h : Q (.int its.length (s.toks + 1)) { s with toks := s.toks + 1 + 1 }) :
    wpAny (model prog w) A (call (.builtin "len") [.ref l]) Q E s := by
  refine Calls.call_len_list (News.isList (n := n) N hm) (by rw [List.size_toArray]; omega) ?_
  rw [List.size_toArray]; exact h
local macro_rules | `(tactic| walk_at "call builtin:len") => `(tactic| (
  k_here
  (with_reducible show wpAny _ _ (call (Value.builtin _) [Value.ref _]) _ _ _)
  k_dflt (refine' len_news ?k1 ?k2 ?k3 ?_; (case k1 => k_asm); (case k2 => row_head_pins); (case k3 => omega); k_whole)))
local macro_rules | `(tactic| walk_at "call ref") => `(tactic| (k_here; k_dflt (refine' call_cls ?k1 ?k2 ?k3 ?k4 ?k5 ?k6 ?_; (case k1 => k_asm); (case k2 => k_asm); (case k3 => k_asm); (case k4 => k_is); (case k5 => k_is); (case k6 => k_is); k_whole; intro x' d' h' F' N' l1 l2; (try k_lt l1); (try k_lt2 l2); (try k_sweep); row_walkg)))
local macro_rules | `(tactic| walk_at "exec For Tuple Name cons nil") => `(tactic| (k_here; (rename Fr _ _ _ _ => lF'); (with_unfolding_all refine' For_invTF lF' ?_ ?g; (case g => (intro _; exact rfl)); k_whole)))
local macro_rules | `(tactic| walk_at "pyIter ref") => `(tactic| refine Here.off ?_)
local macro_rules | `(tactic| walk_at "GEnd") => `(tactic| refine Here.off ?_)
local macro_rules | `(tactic| walk_at "GPostN") => `(tactic| dsimp only [GPostN])

theorem law_scene_spec {rl ha : Addr} {flag : Int} {tf : Tok} {f : Int → Int} {rows : List (Int × Str)}
    (C : Cx w A₀ base h₀ outer L m mg mb mean news s cs dp un 6)
    (hr : RowsAt news rl rows) (hlen : rows.length ≤ 8) (hh : HeldAt w news ha f)
    (ret : ∀ sc news' h' tk', (∀ p ∈ news, p ∈ news') → ScAt w news' sc flag f rows → Fr h₀ L h' m → News h₀ L h' news' → Q (.ref sc) { s with heap := h', toks := tk' }) :
    wpAny (model PySem.Challenge.rw_pb0191_01.row.prog w) (ktrTop dp un gd cn cs L a ccd cl outer)
      (call (.ref 352) [.ref rl, .ref ha, .int flag tf]) Q E s := by
  obtain ⟨B, F, X, N, T, hk, hd, hu⟩ := C
  obtain ⟨its0, nn, r1, r2, r3⟩ := hr
  revert X; k_fill; intro X
  refine wpAny_call ?_
  k_dflt ktr_enter
  k_steps
  refine Here.on ?_
  rename News _ _ _ ((_, listOf _ _) :: _) => lN'
  (rename Fr _ _ _ _ => lF')
  rename ∀ p ∈ news, p.1 < _ => l0
  refine' iterGT_list (σ := Addr) (by rfl) (.tail _ r1) lF' lN' (fun c => [(Str.ofString "infos", .ref c)]) [Str.ofString "glyph", Str.ofString "kind", Str.ofString "info"]
    (SInv news rows) _ ?kk ?kp ?kl ?_ ?_
  case kk => kst_all
  case kp => exact ⟨[], _, news, rfl, fun _ h => h, fun p hp => Nat.ne_of_lt (l0 p hp), rfl, fun j hj => absurd hj (Nat.not_lt_zero _)⟩
  case kl =>
    rintro i c nx ⟨its, k, rest', rfl, s1, s2, s3⟩
    exact .tail _ (s1 _ r1)
  · clear lF' lN'
    rintro fl i v u nx I oI s₁ hi hv ⟨its, k, rest', rfl, s1, s2, s3⟩ hI F₁ N₁
    have hI1 := Nat.lt_or_gt_of_ne (hI _ (.head _))
    have hI3 : ∀ p ∈ rest', p.1 ≠ I := fun p hp => hI _ (.tail _ hp)
    dsimp only at hI1
    rw [r2] at hi
    obtain ⟨x, t, t', n', e1, e2⟩ := r3 i hi
    obtain rfl : v = .ref x := by rw [e1] at hv; exact (Option.some.inj hv).symm
    have e3 := s1 _ e2
    have hlit := s3.1
    obtain ⟨h₁, g₁, dr₁, tk₁, os₁⟩ := s₁
    dsimp only at F₁ N₁
    (try k_fold)
    k_steps
    exact Here.on (SInv.push (by assumption) (by assumption) rfl rfl rfl (by kst_all)
      (by intro z z1 z2 z3; have z4 := z2 _ (List.mem_singleton.mpr rfl); dsimp only at z4; have z5 : ¬ z = Str.ofString "glyph" ∧ ¬ z = Str.ofString "kind" ∧ ¬ z = Str.ofString "info" := (by simpa using z3); simp [kstB, z4, z5])
      s1 s2 s3 hI (by assumption) (by assumption))
  · clear lF' lN'
    rintro fl u nx h tk ⟨its, k, rest', rfl, s1, s2, s3⟩ F₁ N₁
    rw [r2] at s3
    obtain ⟨od, kvs, D, hh1, hh2, hh3, hh4, hh5⟩ := hh
    have hh6 := s1 _ hh1
    (try k_fold)
    k_steps
    refine ret _ _ _ _ ?_ ?_ (by assumption) (by assumption)
    · intro q hq
      have hq' := s1 q hq
      simp only [List.mem_cons, hq', or_true]
    · refine' ⟨_, _, _, _, _, _, _, _, _, _, _, _, _, _, _, _, _, _, _, _, _, _, _, ?a1, ?a2, ?a3, ?a4, ?a5⟩
      case a1 => row_head_pins
      case a2 => row_head_pins
      case a3 =>
        refine' ⟨_, _, _, _, _, _, _, _, _, _, _, _, _, _, ?b1, ?b2, ?b3⟩
        case b1 => row_head_pins
        case b2 => row_head_pins
        case b3 =>
          refine' ⟨_, _, ?c1, ?c2, ?c3⟩
          case c1 => row_head_pins
          case c2 => rw [List.size_toArray]; exact s3.1
          case c3 =>
            intro j hj
            obtain ⟨z, e, r⟩ := s3.2 j hj
            exact ⟨z, by simpa using e, r.mono fun q hq => by simp only [List.mem_cons, hq, or_true]⟩
      case a4 =>
        refine' ⟨_, _, _, _, _, _, _, _, _, _, _, _, _, _, _, _, _, ?d1, ?d2, ?d3⟩
        case d1 => row_head_pins
        case d2 => row_head_pins
        case d3 =>
          refine' ⟨_, _, _, _, _, _, _, _, ?e1, ?e2, ?e3, ?e4, ?e5, ?e6, ?e7⟩
          case e1 => row_head_pins
          case e2 => row_head_pins
          case e3 => row_head_pins
          case e4 => exact hh2
          case e5 => exact hh3
          case e6 => exact hh4
          case e7 => exact hh5
      case a5 =>
        refine' ⟨_, _, _, _, _, _, _, _, _, _, _, _, _, _, ?f1, ?f2⟩
        case f1 => row_head_pins
        case f2 => row_head_pins

end
end Mine
theorem Mine.anew_B7 : True := by
  w_top off
  first | (walk1; done) | trivial

open PySem PySem.W PySem.Spec PySem.Calls PyProof.Rows PyProof.V
set_option Elab.async false
set_option maxRecDepth 100000
set_option maxHeartbeats 8000000
namespace Mine

def EltEnd (h₀ : Heap) (L : Addr) (m : Str → Option Value) (P : Nat → List Value → List (Addr × Obj) → Prop) (C D I : Addr) (oC oD oI : Obj) (i : Nat) (ys : List Value) (s₁ : Shared) (y : Value) (s₄ : Shared) : Prop :=
  ∃ h' tk' nx', s₄ = { s₁ with heap := h', toks := tk' } ∧ Fr h₀ L h' m ∧ News h₀ L h' ((C, oC) :: (D, oD) :: (I, oI) :: nx') ∧
    (∀ p ∈ nx', p.1 ≠ I ∧ p.1 ≠ D ∧ p.1 ≠ C) ∧ P (i + 1) (ys ++ [y]) nx'

section
variable {prog : Program} {w : World} {A : Around} {E : Value → Shared → Prop} {env : Env} {h₀ : Heap} {m : Str → Option Value} {news : List (Addr × Obj)}

def TurnC (prog : Program) (w : World) (A : Around) (h₀ : Heap) (env : Env) (m : Str → Option Value) (elt : PySem.Expr) (x : Str) (scope : Scope) (cl : List (Str × Addr)) (n : Nat) (P : Nat → List Value → List (Addr × Obj) → Prop) (s₂ : Shared) : Prop :=
  ∀ i t ys k nx C D I oI oC mC h tk E', i < n → ys.length = i → P i ys nx → (∀ p ∈ nx, p.1 ≠ I ∧ p.1 ≠ D ∧ p.1 ≠ C) → @LT.lt Nat instLTNat I D → @LT.lt Nat instLTNat D C →
    Fr h₀ env.locals h m → News h₀ env.locals h ((C, oC) :: (D, listOf ys.toArray k) :: (I, oI) :: nx) → h.Ns C mC → mC x = some (.int (i : Nat) t) →
    wpAny (model prog w) A (eval elt (compEnvC scope cl C env)) (EltEnd h₀ env.locals m P C D I oC (listOf ys.toArray k) oI i ys { s₂ with heap := h, toks := tk }) E' { s₂ with heap := h, toks := tk }

theorem comp_eff_block {elt iter : PySem.Expr} {x : Str} {px : Pos} {scope : Scope} {cl : List (Str × Addr)} {pos : Pos} {s₂ : Shared} {I : Addr} {n : Nat} {St : Nat → Heap → Prop}
    (W : Walks prog w A I [I] [I] n (fun i v => ∃ t, v = .int (i : Nat) t) St) (live : ∀ i h, St i h → ∃ o, h.get? I = some o) (hn1 : n < 1000) {RR : Value → Addr → Result → Shared → Prop}
    (hcell : ∀ y ∈ scope.names, y.2 ≠ .cell) (hkind : scope.kind = .function) (hx : scope.names.lookup x = some .local) (hst : St 0 s₂.heap)
    (hI : @LT.lt Nat instLTNat I s₂.heap.objs.size) (hIh : h₀.get? I = none) (hIL : I ≠ env.locals)
    (F : Fr h₀ env.locals s₂.heap m) (N : News h₀ env.locals s₂.heap news) (hnw : ∀ p ∈ news, p.1 ≠ I)
    (P : Nat → List Value → List (Addr × Obj) → Prop) (hP0 : P 0 [] news)
    (turn : TurnC prog w A h₀ env m elt x scope cl n P s₂)
    (hRR : ∀ D C h' tk m' ys k nx, P n ys nx → (∀ p ∈ nx, p.1 ≠ D ∧ p.1 ≠ C) → D ≠ C → h₀.get? C = none → C ≠ env.locals → h'.Ns C m' → Fr h₀ env.locals h' m →
      News h₀ env.locals h' ((D, listOf (List.toArray ys) k) :: nx) → RR (.ref D) C (.ok .next) { s₂ with heap := h', toks := tk }) :
    wpAny (model prog w) A (newList []) (fun acc s₃ => wpAny (model prog w) A (newFunctionEnv scope env.globals cl [] env.qual none .none (some env)) (fun cenv s₄ =>
      codeAny (model prog w) A (.compStart (.ListComp elt [⟨.Name x px, iter, [], 0⟩] scope pos) 0 (.ref I) acc { cenv with scope := relabel scope env }) (RR acc cenv.locals) s₄) E s₃) E s₂ := by
  refine wpAny_newObj_type (wpAny_newFunctionEnv hcell (by intro y hy; simp at hy) (fun h₁ hns₁ hsb₁ => ?_) hkind)
  dsimp only at hns₁ hsb₁ ⊢
  generalize hH2 : s₂.heap.push { cls := .type "list", dict := none, data := .seq ([] : List Value).toArray } = H2 at hns₁ hsb₁ ⊢
  have hC : H2.objs.size = s₂.heap.objs.size + 1 := by rw [← hH2, Heap.size_push]
  have hDC : s₂.heap.objs.size ≠ H2.objs.size := by rw [hC]; exact Nat.ne_of_lt (Nat.lt_succ_self _)
  have below : ∀ b, b < s₂.heap.objs.size → b ≠ H2.objs.size ∧ b ≠ s₂.heap.objs.size := fun b hb => ⟨by rw [hC]; exact Nat.ne_of_lt (Nat.lt_succ_of_lt hb), Nat.ne_of_lt hb⟩
  have old : ∀ b o, s₂.heap.get? b = some o → h₁.get? b = some o := fun b o e => hsb₁.extBut b o (below b (Heap.lt_size e)).1 (Heap.get?_push_of_some _ (hH2 ▸ Heap.get?_push_of_some _ e))
  have hD1 : h₁.get? s₂.heap.objs.size = some (listOf (List.toArray []) 0) := hsb₁.extBut _ _ hDC (Heap.get?_push_of_some _ (hH2 ▸ Heap.get?_push_size _ rfl))
  have fresh : ∀ a, s₂.heap.objs.size ≤ a → s₂.heap.get? a = none := fun a ha => by
    cases e : s₂.heap.get? a with
    | none => rfl
    | some o' => exact absurd (Heap.lt_size e) (Nat.not_lt.mpr ha)
  have fresh0 : ∀ a, s₂.heap.objs.size ≤ a → h₀.get? a = none := fun a ha => by
    cases e : h₀.get? a with
    | none => rfl
    | some o' => have := F.keep a o' e; rw [fresh a ha] at this; cases this
  have hL : env.locals < s₂.heap.objs.size := F.ns.lt
  have hCL : H2.objs.size ≠ env.locals := Ne.symm (below _ hL).1
  have hDL : s₂.heap.objs.size ≠ env.locals := Ne.symm (below _ hL).2
  have hC0 : h₀.get? H2.objs.size = none := fresh0 _ (by rw [hC]; exact Nat.le_succ _)
  have hD0 : h₀.get? s₂.heap.objs.size = none := fresh0 _ (Nat.le_refl _)
  have hIC : I ≠ H2.objs.size := (below I hI).1
  have hID : I ≠ s₂.heap.objs.size := (below I hI).2
  have hst₁ : St 0 h₁ := W.frame _ _ _ hst fun b _ o e => old b o e
  have F₁ : Fr h₀ env.locals h₁ m := ⟨F.ns.at' fun o e => old _ o e, fun b o e => old b o (F.keep b o e), F.above⟩
  have N₁ : News h₀ env.locals h₁ ((s₂.heap.objs.size, listOf (List.toArray []) 0) :: news) := fun p hp => by
    rcases List.mem_cons.mp hp with rfl | hp
    · exact ⟨hD1, hDL, hD0⟩
    · exact ⟨old _ _ (N p hp).1, (N p hp).2⟩
  have hDIlt : @LT.lt Nat instLTNat I s₂.heap.objs.size := hI
  have hDClt : @LT.lt Nat instLTNat s₂.heap.objs.size H2.objs.size := by rw [hC]; exact Nat.lt_succ_self _
  have hoff : ∀ p ∈ news, p.1 ≠ I ∧ p.1 ≠ s₂.heap.objs.size ∧ p.1 ≠ H2.objs.size := fun p hp =>
    ⟨hnw p hp, (below _ (Heap.lt_size (N p hp).1)).2, (below _ (Heap.lt_size (N p hp).1)).1⟩
  generalize s₂.heap.objs.size = D at *
  generalize H2.objs.size = C at *
  have loop : ∀ s₃ : Shared, s₃ = { s₂ with heap := h₁, toks := s₂.toks + ([] : List (Str × Value)).length } →
      codeAny (model prog w) A (.compLoop (.ListComp elt [⟨.Name x px, iter, [], 0⟩] scope pos) 0 (.ref I) (.ref D) (compEnvC scope cl C env))
        (RR (.ref D) C) s₃ := by
    rintro s₃ rfl
    refine codeAny_compLoop_tests
      (fun k s' => ∃ h' tk m' ys kk nx i, s' = { s₂ with heap := h', toks := tk } ∧ St i h' ∧ h'.Ns C m' ∧ Fr h₀ env.locals h' m ∧ News h₀ env.locals h' ((D, listOf (List.toArray ys) kk) :: nx) ∧
        (∀ p ∈ nx, p.1 ≠ I ∧ p.1 ≠ D ∧ p.1 ≠ C) ∧ P i ys nx ∧ i ≤ n ∧ k = n + 1 - i ∧ ys.length = i) ?_ (n + 1)
      ⟨h₁, _, _, [], 0, news, 0, rfl, hst₁, hns₁, F₁, N₁, hoff, hP0, Nat.zero_le _, rfl, rfl⟩
    rintro k s' ⟨H, tk, m', ys, kk, nx, i, rfl, hst', hn', F', N', hoff', hP', hi, rfl, hlen⟩
    by_cases hlt : i < n
    · refine W.item i _ _ _ hlt hst' fun v h₂ tk₂ hPv hst₂ hk₂ => ?_
      obtain ⟨t, rfl⟩ := hPv
      have hk₂' : ∀ b o, b ≠ I → H.get? b = some o → h₂.get? b = some o := fun b o hb e => hk₂ b o (fun h => hb (List.mem_singleton.mp h)) e
      refine wpAny_assign_Name (wpAny_storeName_local (lookup_relabel_local hx) (hn'.at' fun o e => hk₂' _ o (Ne.symm hIC) e) (fun h₃ hn₃ hs₃ => ?_) (by simp [compEnvC, relabel, hkind]))
      have up : ∀ b o, b ≠ I → b ≠ C → H.get? b = some o → h₃.get? b = some o := fun b o hb hbC e => hs₃.extBut b o hbC (hk₂' b o hb e)
      have hst₃ : St (i + 1) h₃ := W.frame _ _ _ hst₂ fun b hb o e => hs₃.extBut b o (fun h => hIC ((List.mem_singleton.mp hb).symm.trans h)) e
      have ne0 : ∀ b o, h₀.get? b = some o → b ≠ I ∧ b ≠ C := fun b o e => ⟨(by rintro rfl; rw [hIh] at e; cases e), (by rintro rfl; rw [hC0] at e; cases e)⟩
      have F₃ : Fr h₀ env.locals h₃ m := ⟨F'.ns.at' fun o e => up _ o (Ne.symm hIL) (Ne.symm hCL) e, fun b o e => up b o (ne0 b o e).1 (ne0 b o e).2 (F'.keep b o e), F'.above⟩
      obtain ⟨oI, hoI⟩ := live _ _ hst₃
      obtain ⟨oC, hoC⟩ : ∃ oC, h₃.get? C = some oC := by
        obtain ⟨o, _, _, e, _⟩ := hn₃
        exact ⟨o, e⟩
      have N₃ : News h₀ env.locals h₃ ((C, oC) :: (D, listOf (List.toArray ys) kk) :: (I, oI) :: nx) := fun p hp => by
        rcases List.mem_cons.mp hp with rfl | hp
        · exact ⟨hoC, hCL, hC0⟩
        rcases List.mem_cons.mp hp with rfl | hp
        · exact ⟨up _ _ (Ne.symm hID) (Nat.ne_of_lt hDClt) (N' _ (.head _)).1, hDL, hD0⟩
        rcases List.mem_cons.mp hp with rfl | hp
        · exact ⟨hoI, hIL, hIh⟩
        · exact ⟨up _ _ (hoff' p hp).1 (hoff' p hp).2.2 (N' p (.tail _ hp)).1, (N' p (.tail _ hp)).2⟩
      refine wpAny_pure ?_
      simp only [if_true]
      refine wpAny_mono (turn i t ys kk nx C D I oI oC _ h₃ _ _ hlt hlen hP' hoff' hDIlt hDClt F₃ N₃ hn₃ (by simp)) (fun y s₄ q => ?_) fun _ _ e => e
      obtain ⟨h₄, tk₄, nx', rfl, F₄, N₄, hoff₄, hP₄⟩ := q
      refine append_K (its := List.toArray ys) (n := kk) (news' := (C, oC) :: (D, listOf ((List.toArray ys).push y) (kk + 1)) :: (I, oI) :: nx') F₄ N₄
        (.tail (Ne.symm (Nat.ne_of_lt hDClt)) (.head (fun p hp => ?_))) (fun h₅ F₅ N₅ => ?_) (by rw [List.size_toArray, PySem.sizeLine_eq]; omega)
      · rcases List.mem_cons.mp hp with rfl | hp
        · exact hID
        · exact (hoff₄ p hp).2.1
      · refine ⟨n + 1 - (i + 1), by omega, h₅, _, _, ys ++ [y], kk + 1, nx', i + 1, rfl, ?_, hn₃.at' fun o e => ?_, F₅, ?_, hoff₄, hP₄, hlt, rfl, by simp [hlen]⟩
        · refine W.frame _ _ _ hst₃ fun b hb o e => ?_
          rw [List.mem_singleton.mp hb] at e ⊢
          rw [hoI] at e
          rw [← Option.some.inj e]
          exact (N₅ (I, oI) (.tail _ (.tail _ (.head _)))).1
        · have e' : h₃.get? C = some o := e
          rw [hoC] at e'
          rw [← Option.some.inj e']
          exact (N₅ (C, oC) (.head _)).1
        · rw [List.push_toArray] at N₅
          intro p hp
          rcases List.mem_cons.mp hp with rfl | hp
          · exact N₅ _ (.tail _ (.head _))
          · exact N₅ _ (.tail _ (.tail _ (.tail _ hp)))
    · have hin : i = n := by omega
      subst hin
      refine W.done _ _ _ hst' fun h₂ tk₂ hk₂ => ?_
      have hk₂' : ∀ b o, b ≠ I → H.get? b = some o → h₂.get? b = some o := fun b o hb e => hk₂ b o (fun h => hb (List.mem_singleton.mp h)) e
      have ne0 : ∀ b o, h₀.get? b = some o → b ≠ I := fun b o e => by rintro rfl; rw [hIh] at e; cases e
      refine hRR D C h₂ tk₂ m' ys kk nx hP' (fun p hp => (hoff' p hp).2) (Nat.ne_of_lt hDClt) hC0 hCL (hn'.at' fun o e => hk₂' _ o (Ne.symm hIC) e)
        ⟨F'.ns.at' fun o e => hk₂' _ o (Ne.symm hIL) e, fun b o e => hk₂' b o (ne0 b o e) (F'.keep b o e), F'.above⟩ fun p hp => ?_
      rcases List.mem_cons.mp hp with rfl | hp
      · exact ⟨hk₂' _ _ (Ne.symm hID) (N' _ (.head _)).1, (N' _ (.head _)).2⟩
      · exact ⟨hk₂' _ _ (hoff' p hp).1 (N' p (.tail _ hp)).1, (N' p (.tail _ hp)).2⟩
  exact codeAny_compStart_list (loop _ rfl) (W.self 0 _ _ _ hst₁ (loop _ rfl))


def CompEff (prog : Program) (w : World) (A : Around) (h₀ : Heap) (env : Env) (elt : PySem.Expr) (x : Str) (scope : Scope) (cl : List (Str × Addr)) (K : (Str → Option Value) → Addr → Heap → Nat → Nat → List Value → Nat → List (Addr × Obj) → (Nat → List Value → List (Addr × Obj) → Prop) → Prop) (xv : Value) (s₁ : Shared) : Prop :=
  ∃ r b₀ t u v m news P, xv = .ref r ∧ IsRange s₁.heap r 0 b₀ 1 t u v ∧ 0 ≤ b₀ ∧ b₀ < 1000 ∧ Fr h₀ env.locals s₁.heap m ∧ News h₀ env.locals s₁.heap news ∧ P 0 [] news ∧
    TurnC prog w A h₀ env m elt x scope cl b₀.toNat P s₁ ∧
    (∀ D h' tk ys k nx, P b₀.toNat ys nx → (∀ p ∈ nx, p.1 ≠ D) → D ≠ env.locals → h₀.get? D = none → Fr h₀ env.locals h' m → News h₀ env.locals h' ((D, listOf (List.toArray ys) k) :: nx) → K m D h' tk b₀.toNat ys k nx P)

theorem pyIter_eff {elt iter : PySem.Expr} {x : Str} {px : Pos} {scope : Scope} {cl : List (Str × Addr)} {pos : Pos} {s₁ : Shared} {xv : Value} {RR : Value → Addr → Result → Shared → Prop}
    {K : (Str → Option Value) → Addr → Heap → Nat → Nat → List Value → Nat → List (Addr × Obj) → (Nat → List Value → List (Addr × Obj) → Prop) → Prop}
    (hh : A.handled = none) (hcell : ∀ y ∈ scope.names, y.2 ≠ .cell) (hkind : scope.kind = .function) (hx : scope.names.lookup x = some .local)
    (h : CompEff prog w A h₀ env elt x scope cl K xv s₁)
    (hRR : ∀ D C m h' tk m' n ys k nx P, K m D h' tk n ys k nx P → (∀ p ∈ nx, p.1 ≠ D ∧ p.1 ≠ C) → D ≠ C → h₀.get? C = none → C ≠ env.locals → h'.Ns C m' → Fr h₀ env.locals h' m →
      News h₀ env.locals h' ((D, listOf (List.toArray ys) k) :: nx) → RR (.ref D) C (.ok .next) { s₁ with heap := h', toks := tk }) :
    wpAny (model prog w) A (pyIter xv) (fun it s₂ => wpAny (model prog w) A (newList []) (fun acc s₃ => wpAny (model prog w) A (newFunctionEnv scope env.globals cl [] env.qual none .none (some env)) (fun cenv s₄ =>
      codeAny (model prog w) A (.compStart (.ListComp elt [⟨.Name x px, iter, [], 0⟩] scope pos) 0 it acc { cenv with scope := relabel scope env }) (RR acc cenv.locals) s₄) E s₃) E s₂) E s₁ := by
  obtain ⟨r, b₀, t, u, v, m, news, P, rfl, hr, hb0, hb1, F, N, hP0, turn, done⟩ := h
  have hn : Builtin.Range.rangeSize 0 b₀ 1 = ((b₀.toNat : Nat) : Int) := by rw [rangeSize_nat]; congr 2; omega
  refine wpAny_pyIter_range hr (small_one (by omega) (by omega) (by omega) (by omega)) ?_
  have W0 := Walks.range (prog := prog) (w := w) hh s₁.heap.objs.size 0 1 b₀.toNat
  have W : Walks prog w A s₁.heap.objs.size [s₁.heap.objs.size] [s₁.heap.objs.size] b₀.toNat (fun i v => ∃ t, v = .int (i : Nat) t) (fun i h => IsRangeIter h s₁.heap.objs.size (0 + (i : Nat) * 1) ((b₀.toNat : Int) - (i : Nat)) 1) :=
    { sub := W0.sub, frame := W0.frame, done := W0.done, self := W0.self, item := fun i s Q E hi st hQ => W0.item i s Q E hi st fun v h' tk hv => by
        obtain ⟨t, rfl⟩ := hv
        exact hQ _ h' tk ⟨t, by rw [show (0 : Int) + (i : Int) * 1 = (i : Int) by omega]⟩ }
  refine comp_eff_block W (fun i h st => ⟨_, st⟩) (by omega) hcell hkind hx (by show IsRangeIter _ _ _ _ _; rw [hn]; simpa using Heap.get?_push_size _ rfl)
    (by show s₁.heap.objs.size < (Heap.push s₁.heap _).objs.size; rw [Heap.size_push]; exact Nat.lt_succ_self _) (next_is_new F) (Ne.symm (Nat.ne_of_lt F.ns.lt)) (F.push _)
    (fun p hp => ⟨Heap.get?_push_of_some _ (N p hp).1, (N p hp).2⟩) (fun p hp => Nat.ne_of_lt (Heap.lt_size (N p hp).1)) P hP0 turn ?_
  intro D C h' tk m' ys k nx hP hoff hDC hC0 hCL hns F' N'
  exact hRR D C m h' tk m' _ ys k nx P (done D h' tk ys k nx hP (fun p hp => (hoff p hp).1) (N' _ (.head _)).2.1 (N' _ (.head _)).2.2 F' N') hoff hDC hC0 hCL hns F' N'

theorem ListComp_eff {s : Shared} {elt iter : PySem.Expr} {x : Str} {px : Pos} {scope : Scope} {cl : List (Str × Addr)} {pos : Pos} {Q : Value → Shared → Prop} (h₀ : Heap)
    (hh : A.handled = none) (hclos : closureFor scope env = pure cl) (hcell : ∀ y ∈ scope.names, y.2 ≠ .cell) (hkind : scope.kind = .function)
    (hnames : ∀ y ∈ scope.names, y.2 = .local → scope.names.lookup y.1 = some .local) (hx : scope.names.lookup x = some .local)
    (hs : ∀ x, foldedSetIterable iter env x = pure x)
    (h : wpAny (model prog w) A (eval iter env) (fun xv s₁ => CompEff prog w A h₀ env elt x scope cl
      (fun m D _ _ _ ys k nx _ => ∀ h' tk, Fr h₀ env.locals h' m → News h₀ env.locals h' ((D, listOf (List.toArray ys) k) :: nx) → Q (.ref D) { s₁ with heap := h', toks := tk }) xv s₁) E s) :
    wpAny (model prog w) A (eval (.ListComp elt [⟨.Name x px, iter, [], 0⟩] scope pos) env) Q E s := by
  rw [eval_ListComp]
  refine wpAny_comprehension_free (use := none) rfl hs hclos hkind hnames (wpAny_mono h (fun xv s₁ h₁ => ?_) fun _ _ e => e)
  refine pyIter_eff (RR := fun acc C => compPost (model prog w) A E none Q acc C) hh hcell hkind hx h₁ ?_
  intro D C m h' tk m' n ys k nx P hK hoff hDC hC0 hCL hns F' N'
  refine ⟨m', hns, fun h'' hs'' => hK h'' tk (F'.change hs'' hCL hC0) fun p hp => ?_⟩
  have hpC : p.1 ≠ C := by
    rcases List.mem_cons.mp hp with rfl | hp
    · exact hDC
    · exact (hoff p hp).2
  exact ⟨hs''.extBut _ _ hpC (N' p hp).1, (N' p hp).2⟩

theorem Assign_ListComp_eff {s : Shared} {elt iter : PySem.Expr} {x y : Str} {px py : Pos} {scope : Scope} {cl : List (Str × Addr)} {pos spos : Pos} {Q : Flow → Shared → Prop} (h₀ : Heap)
    (hsw : swapsWith (.ListComp elt [⟨.Name x px, iter, [], 0⟩] scope pos) (some (.Name y py)) spos.line env = pure true)
    (hh : A.handled = none) (hclos : closureFor scope env = pure cl) (hcell : ∀ y ∈ scope.names, y.2 ≠ .cell) (hkind : scope.kind = .function)
    (hnames : ∀ y ∈ scope.names, y.2 = .local → scope.names.lookup y.1 = some .local) (hx : scope.names.lookup x = some .local)
    (hy : env.kindOf y = some .local) (hp : (env.scope.kind == .class || (env.scope.kind == .module && env.locals != env.globals)) = false)
    (hs : ∀ x, foldedSetIterable iter env x = pure x)
    (h : wpAny (model prog w) A (eval iter env) (fun xv s₁ => CompEff prog w A h₀ env elt x scope cl
      (fun m D _ _ _ ys k nx _ => ∀ h' tk, Fr h₀ env.locals h' (fun z => if z = y then some (.ref D) else m z) → News h₀ env.locals h' ((D, listOf (List.toArray ys) k) :: nx) → Q .next { s₁ with heap := h', toks := tk }) xv s₁) E s) :
    wpAny (model prog w) A (exec (.Assign [.Name y py] (.ListComp elt [⟨.Name x px, iter, [], 0⟩] scope pos) spos) env) Q E s := by
  rw [exec_Assign_Name_used _ _ _ _ hsw]
  refine wpAny_bind (wpAny_standAt (wpAny_bind ?_))
  show wpAny _ A (do let _ ← comprehension (.ListComp elt [⟨.Name x px, iter, [], 0⟩] scope pos) scope env _ (newList []) false (eval iter env) (some (assign (.Name y py) env))) _ _ s
  refine wpAny_bind (wpAny_mono (wpAny_comprehension_free (use := some (assign (.Name y py) env)) (Q := fun _ s' => Q .next s') rfl hs hclos hkind hnames
    (wpAny_mono h (fun xv s₁ h₁ => ?_) fun _ _ e => e)) (fun _ s' hq => wpAny_pure (wpAny_pure hq)) fun _ _ e => e)
  refine pyIter_eff (RR := fun acc C => compPost (model prog w) A E (some (assign (.Name y py) env)) (fun _ s' => Q .next s') acc C) hh hcell hkind hx h₁ ?_
  intro D C m h' tk m' n ys k nx P hK hoff hDC hC0 hCL hns F' N'
  show wpAny _ A (assign (.Name y py) env (.ref D)) _ _ _
  refine wpAny_assign_Name (wpAny_storeName_local hy F'.ns (fun h₂ hn₂ hs₂ => ?_) hp)
  refine ⟨m', hns.sameBut hs₂ hCL, fun h'' hs'' => hK h'' _ ((F'.set hn₂ hs₂).change hs'' hCL hC0) fun p hp => ?_⟩
  have hpC : p.1 ≠ C := by
    rcases List.mem_cons.mp hp with rfl | hp
    · exact hDC
    · exact (hoff p hp).2
  have N₂ := N'.set hs₂
  exact ⟨hs''.extBut _ _ hpC (N₂ p hp).1, (N₂ p hp).2⟩

theorem ListComp_effF {s : Shared} {elt iter : PySem.Expr} {x : Str} {px : Pos} {scope : Scope} {cl : List (Str × Addr)} {pos : Pos} {Q : Value → Shared → Prop} {m₀ : Str → Option Value} (fF : Fr h₀ env.locals s.heap m₀)
    (hh : A.handled = none) (hclos : closureFor scope env = pure cl) (hcell : ∀ y ∈ scope.names, y.2 ≠ .cell) (hkind : scope.kind = .function)
    (hnames : ∀ y ∈ scope.names, y.2 = .local → scope.names.lookup y.1 = some .local) (hx : scope.names.lookup x = some .local)
    (hs : ∀ x, foldedSetIterable iter env x = pure x)
    (h : wpAny (model prog w) A (eval iter env) (fun xv s₁ => CompEff prog w A h₀ env elt x scope cl
      (fun m D _ _ _ ys k nx _ => ∀ h' tk, Fr h₀ env.locals h' m → News h₀ env.locals h' ((D, listOf (List.toArray ys) k) :: nx) → Q (.ref D) { s₁ with heap := h', toks := tk }) xv s₁) E s) :
    wpAny (model prog w) A (eval (.ListComp elt [⟨.Name x px, iter, [], 0⟩] scope pos) env) Q E s := ListComp_eff h₀ hh hclos hcell hkind hnames hx hs h

theorem Assign_ListComp_effF {s : Shared} {elt iter : PySem.Expr} {x y : Str} {px py : Pos} {scope : Scope} {cl : List (Str × Addr)} {pos spos : Pos} {Q : Flow → Shared → Prop} {m₀ : Str → Option Value} (fF : Fr h₀ env.locals s.heap m₀)
    (hsw : swapsWith (.ListComp elt [⟨.Name x px, iter, [], 0⟩] scope pos) (some (.Name y py)) spos.line env = pure true)
    (hh : A.handled = none) (hclos : closureFor scope env = pure cl) (hcell : ∀ y ∈ scope.names, y.2 ≠ .cell) (hkind : scope.kind = .function)
    (hnames : ∀ y ∈ scope.names, y.2 = .local → scope.names.lookup y.1 = some .local) (hx : scope.names.lookup x = some .local)
    (hy : env.kindOf y = some .local) (hp : (env.scope.kind == .class || (env.scope.kind == .module && env.locals != env.globals)) = false)
    (hs : ∀ x, foldedSetIterable iter env x = pure x)
    (h : wpAny (model prog w) A (eval iter env) (fun xv s₁ => CompEff prog w A h₀ env elt x scope cl
      (fun m D _ _ _ ys k nx _ => ∀ h' tk, Fr h₀ env.locals h' (fun z => if z = y then some (.ref D) else m z) → News h₀ env.locals h' ((D, listOf (List.toArray ys) k) :: nx) → Q .next { s₁ with heap := h', toks := tk }) xv s₁) E s) :
    wpAny (model prog w) A (exec (.Assign [.Name y py] (.ListComp elt [⟨.Name x px, iter, [], 0⟩] scope pos) spos) env) Q E s := Assign_ListComp_eff h₀ hsw hh hclos hcell hkind hnames hx hy hp hs h
end
end Mine
theorem Mine.anew_GC : True := by
  w_top off
  first | (walk1; done) | trivial

open PySem PySem.W PySem.Spec PySem.Calls PyProof.Rows PyProof.V
set_option Elab.async false
set_option maxRecDepth 100000
set_option maxHeartbeats 8000000
namespace Mine

theorem list_no_keys : typeLookup (.type "list") (Str.ofString "keys") = pure none := am_miss_of_fast (by decide +kernel)

theorem getAttrQ_miss_list {prog : Program} {w : World} {A : Around} {E : Value → Shared → Prop} {s : Shared} {a : Addr} {o : Obj} {xs : Array Value} {k : Nat} {Q : Option Value → Shared → Prop}
    (hx : s.heap.get? a = some o) (hc : o.cls = .type "list") (hdat : o.data = .seq xs k) (hd : o.dict = none) (hA : A.handled = none)
    (h : ∀ h' tk, (∀ b ob, s.heap.get? b = some ob → h'.get? b = some ob) → Q none { s with heap := h', toks := tk }) :
    wpAny (model prog w) A (getAttr? (.ref a) (Str.ofString "keys")) Q E s := by
  obtain ⟨c, dct, dat, sl⟩ := o
  simp only at hc hdat hd
  subst hc hdat hd
  obtain ⟨hp, g, d, tk, os⟩ := s
  have hT : ∀ tk', (⟨hp, g, d, tk', os⟩ : Shared).TypeIs (.ref a) "list" := fun _ => ⟨_, hx, rfl⟩
  have f1 := sub_AttributeError
  have f3 := F.slot_list_getattribute.lookup
  have f4 := F.slot_list_getattribute.bind (.ref a)
  have f5 := am_list_getattr_none
  have hmiss := list_no_keys
  have hname : (["__module__", "__name__", "__qualname__", "__doc__", "__annotations__"] : List Str).contains (Str.ofString "keys") = false := by decide +kernel
  unfold getAttr? getAttrBy? getAttrBy
  repeat (any_goals (first | assumption | exact hT _ | ((with_reducible show wpAny _ _ (call (Value.builtin "list.__getattribute__") _ _) _ _ _); refine call_meets F.slot_list_getattribute (hT _) am_entry_list_getattribute (F.args_list_getattribute_2 _ _) (meets_getattribute_miss_list a xs k sl _ _ hmiss hname (by size_fits)) ⟨hx, hA, fun h' tk' e hx' => ?_⟩) | wp_step))
  obtain ⟨t', u', he⟩ := hx'.there
  show wpAny _ _ (getattributeRaised _ _ _ _ _ _ _) _ _ _
  unfold getattributeRaised
  repeat (any_goals (first | assumption | wp_step))
  exact h _ _ hx'.keeps


namespace DF
theorem entry_dict_update_loop : entryFor table "dict.update.loop" = some Builtin.«dict.update.loop» := entryFor_of_tree (by kernel_rfl)
theorem plain_dict_update_loop : plainId "dict.update.loop" = true := by decide +kernel
end DF

def fUpTo (f : Nat → Int) (n : Nat) (g : Int) : Int := if 0 ≤ g ∧ g < n then f g.toNat else 0

theorem pairItems_tup {prog : Program} {w : World} {A : Around} {E : Value → Shared → Prop} {s : Shared} {x : Addr} {v1 v2 : Value} {n : Nat} {Q : List Value → Shared → Prop}
    (hx : s.heap.get? x = some { cls := .type "tuple", data := .seq #[v1, v2] n }) (h : Q [v1, v2] s) : wpAny (model prog w) A (Builtin.Dict.pairItems (.ref x)) Q E s := by
  obtain ⟨hp, g, d, tk, os⟩ := s
  have hT : (⟨hp, g, d, tk, os⟩ : Shared).TypeIs (.ref x) "tuple" := ⟨_, hx, rfl⟩
  unfold Builtin.Dict.pairItems
  repeat (any_goals (first | assumption | wp_step))

theorem dict_loop {prog : Program} {w : World} {A : Around} {R : Result → Shared → Prop} {l I d : Addr} {its : Array Value} {f : Nat → Int} {hb : Heap} (hA : A.handled = none)
    (hdI : d ≠ I) (hdl : d ≠ l) (hlI : l ≠ I) (hsz : its.size < 1000)
    (tup : ∀ i, i < its.size → ∃ x t t' n', its[i]? = some (.ref x) ∧ x ≠ d ∧ x ≠ I ∧ hb.get? x = some { cls := .type "tuple", data := .seq #[.int (i : Nat) t, .int (f i) t'] n' }) :
    ∀ (k i : Nat) (s : Shared) (kvs : List (Int × Value)) (D : List (PyData × PyData)) (u : Tok), its.size - i = k → i ≤ its.size → s.heap.IsListIter I l i → s.heap.IsList l its →
      s.heap.DictOf (intKind prog w) d kvs → FlatPairs PyData.int kvs D → kvs.length ≤ i → (∀ g, (lookup (.int g) D).getD (.int 0) = .int (fUpTo f i g)) →
      (∀ b o, b ≠ d → b ≠ I → hb.get? b = some o → s.heap.get? b = some o) →
      (∀ h' tk kvs D, h'.DictOf (intKind prog w) d kvs → FlatPairs PyData.int kvs D → (∀ g, (lookup (.int g) D).getD (.int 0) = .int (fUpTo f its.size g)) →
        (∀ b o, b ≠ d → b ≠ I → hb.get? b = some o → h'.get? b = some o) → R (.ok (.ret .none)) { s with heap := h', toks := tk }) →
      codeAny (model prog w) A (.builtin "dict.update.loop" ⟨[.ref d, .ref I, .int (i : Nat) u, .none], []⟩) R s := by
  intro k
  induction k with
  | zero =>
    intro i s kvs D u hk hi hit hl hd hf hlen hlk hkeep hR
    have hin : i = its.size := by omega
    subst hin
    refine codeAny_builtin DF.entry_dict_update_loop ?_
    rw [Around.under_plainId DF.plain_dict_update_loop _]
    show wpAny _ A.in1 (pyNext (.ref I) >>= _) _ _ s
    refine wpAny_bind (wpAny_pyNext_list_end hA hit hl (by simp) fun h' he' => ?_)
    show wpAny _ A.in1 (Builtin.Dict.addKeywords d [] >>= _) _ _ _
    refine wpAny_bind (wpAny_pure ?_)
    show wpAny _ A.in1 (ret Value.none) _ _ _
    refine wpAny_pure (hR h' _ kvs D ?_ hf hlk fun b o hb1 hb2 e => he' b o hb2 (hkeep b o hb1 hb2 e))
    obtain ⟨o, es, ep, ho, r⟩ := hd
    exact ⟨o, es, ep, he' _ _ hdI ho, r⟩
  | succ k ih =>
    intro i s kvs D u hk hi hit hl hd hf hlen hlk hkeep hR
    have hlt : i < its.size := by omega
    obtain ⟨x, t, t', n', hx, hxd, hxI, hxo⟩ := tup i hlt
    refine codeAny_builtin DF.entry_dict_update_loop ?_
    rw [Around.under_plainId DF.plain_dict_update_loop _]
    show wpAny _ A.in1 (pyNext (.ref I) >>= _) _ _ s
    refine wpAny_bind (wpAny_pyNext_list_item hit hl hx fun h₁ hit₁ hs₁ => ?_)
    show wpAny _ A.in1 (holding [Value.ref x] _ >>= _) _ _ _
    have hxo₁ : h₁.get? x = some { cls := .type "tuple", data := .seq #[.int (i : Nat) t, .int (f i) t'] n' } := hs₁.extBut _ _ hxI (hkeep x _ hxd hxI hxo)
    have hd₁ : h₁.DictOf (intKind prog w) d kvs := by
      obtain ⟨o, es, ep, ho, r⟩ := hd
      exact ⟨o, es, ep, hs₁.extBut _ _ hdI ho, r⟩
    refine wpAny_bind (wpAny_holding (wpAny_bind (wpAny_tryCatch (pairItems_tup hxo₁ ?_))))
    dsimp only
    refine wpAny_holding ?_
    refine wpAny_dictSet_pairs (knd := intKind prog w) (k := (i : Int)) (intKind_is _ _ _ _) hd₁ (fun h₂ hd₂ hs₂ => ?_) (by rw [PySem.sizeLine_eq]; omega)
    have e1 : (((i : Nat) : Int) + 1) = (((i + 1 : Nat)) : Int) := by push_cast; rfl
    refine wpAny_pure ⟨plainId_quiet DF.plain_dict_update_loop _, ?_⟩
    show codeAny _ A (.builtin "dict.update.loop" ⟨[.ref d, .ref I, .int (((i : Nat) : Int) + 1) 0, .none], []⟩) R _
    rw [e1]
    refine ih (i + 1) _ (stored kvs (i : Int) (.int (f i) t')) (putD (.int (i : Nat)) (.int (f i)) D) 0 (by omega) hlt (hit₁.at fun o e => hs₂.extBut _ _ (Ne.symm hdI) e)
      ((hl.at fun o e => hs₁.extBut _ _ hlI e).at fun o e => hs₂.extBut _ _ (Ne.symm hdl) e) hd₂ (hf.stored same_int (i : Int) (Flat.int _ _)) ?_ ?_
      (fun b o hb1 hb2 e => hs₂.extBut _ _ hb1 (hs₁.extBut _ _ hb2 (hkeep b o hb1 hb2 e))) ?_
    · unfold stored
      split
      · rw [List.length_map]; omega
      · rw [List.length_append, List.length_singleton]; omega
    · intro g
      by_cases hg : g = (i : Int)
      · subst hg
        rw [lookup_putD_same]
        unfold fUpTo
        rw [if_pos (by omega)]
        rfl
      · rw [lookup_putD_other hg, hlk g]
        unfold fUpTo
        by_cases hg2 : 0 ≤ g ∧ g < (i : Int)
        · rw [if_pos hg2, if_pos (by omega)]
        · rw [if_neg hg2, if_neg (by omega)]
    · intro h' tk kvs' D' a1 a2 a3 a4
      exact hR h' tk kvs' D' a1 a2 a3 a4


theorem call_dict_pairs {prog : Program} {w : World} {A : Around} {E : Value → Shared → Prop} {s : Shared} {h₀ : Heap} {L l : Addr} {m : Str → Option Value} {news : List (Addr × Obj)} {its : Array Value} {n : Nat} {f : Nat → Int} {Q : Value → Shared → Prop}
    (hA : A.handled = none) (Fm : Fr h₀ L s.heap m) (N : News h₀ L s.heap news) (hbig : sysModules < h₀.objs.size) (hm : (l, listOf its n) ∈ news) (hsz : its.size < 1000)
    (tup : ∀ i, i < its.size → ∃ x t t' n', its[i]? = some (.ref x) ∧ (x, ({ cls := .type "tuple", data := .seq #[.int (i : Nat) t, .int (f i) t'] n' } : Obj)) ∈ news)
    (h : ∀ d h' tk o kvs D, Fr h₀ L h' m → News h₀ L h' ((d, o) :: news) → (∀ p ∈ news, p.1 < d) → (d == sysModules) = false → o.IsDictOf (intKind prog w) kvs → FlatPairs PyData.int kvs D →
      (∀ g, (lookup (.int g) D).getD (.int 0) = .int (fUpTo f its.size g)) → Q (.ref d) { s with heap := h', toks := tk }) :
    wpAny (model prog w) A (call (.type "dict") [.ref l]) Q E s := by
  have hl : s.heap.IsList l its := News.isList (n := n) N hm
  have hlt : l < s.heap.objs.size := Heap.lt_size (N _ hm).1
  refine callType_codes (Q₁ := fun obj s₁ => obj = .ref s.heap.objs.size ∧ s₁ = { s with heap := s.heap.push { cls := .type "dict", data := .dict #[] } }) PySem.F.kt_called_dict (PySem.F.kt_typeCall_dict_1 _) PySem.F.entry_dict_init (kt_code_dict_new _ ⟨rfl, rfl⟩) ?_
  rintro obj s₁ ⟨rfl, rfl⟩
  have hnew : (s.heap.push { cls := .type "dict", data := .dict #[] }).DictOf (intKind prog w) s.heap.objs.size [] := Heap.DictOf.new s.heap
  have hl' : (s.heap.push { cls := .type "dict", data := .dict #[] }).IsList l its := hl.at fun o e => Heap.get?_push_of_some _ e
  refine ⟨hnew.typeIs, PySem.F.args_dict_init_2 _ _, ?_⟩
  unfold Builtin.«dict.__init__»
  refine wpAny_bind ?_
  unfold Builtin.Dict.selfAndRest
  refine wpAny_bind (wpAny_notOrdered_dict hnew.typeIs ?_)
  show wpAny _ _ (pure (s.heap.objs.size, [Value.ref l])) _ _ _
  refine wpAny_pure ?_
  show wpAny _ _ (Builtin.Dict.updateFrom "dict.__init__" s.heap.objs.size (.ref l) [] .none) _ _ _
  unfold Builtin.Dict.updateFrom
  refine wpAny_bind (wpAny_typeOf hl'.typeIs ?_)
  rw [if_pos (by decide)]
  refine wpAny_bind ?_
  refine getAttrQ_miss_list (o := listOf its n) (xs := its) (k := n) (Heap.get?_push_of_some _ (N _ hm).1) rfl rfl rfl hA fun h₁ tk₁ hk₁ => ?_
  simp only [Option.isNone_none, if_true]
  refine wpAny_bind (wpAny_rule ?_)
  have hl₁ : h₁.IsList l its := hl'.at fun o e => hk₁ _ _ e
  refine wpAny_bind (wpAny_pyIter_list hl₁ ?_)
  have dk : s.heap.objs.size < h₁.objs.size := Heap.lt_size (hk₁ _ _ (Heap.get?_push_size _ rfl))
  have old : ∀ b o, s.heap.get? b = some o → b < s.heap.objs.size := fun b o e => Heap.lt_size e
  refine wpAny_pure ⟨plainId_quiet DF.plain_dict_update_loop _, ?_⟩
  refine dict_loop (A := A.in1) (hb := s.heap) (f := f) (l := l) (its := its) (show A.in1.handled = none from hA) (Nat.ne_of_lt dk) (Nat.ne_of_gt hlt) (Nat.ne_of_lt (Nat.lt_trans hlt dk)) hsz ?_ its.size 0 _ [] [] 0 rfl (Nat.zero_le _)
    ?lit ?lst ?_ .nil (Nat.zero_le _) ?_ ?_ ?_
  case lit => exact ⟨_, Heap.get?_push_size _ rfl, rfl, rfl⟩
  case lst => exact hl₁.at fun o e => Heap.get?_push_of_some _ e
  · intro i hi
    obtain ⟨x, t, t', n', e1, e2⟩ := tup i hi
    have e3 := (N _ e2).1
    exact ⟨x, t, t', n', e1, Nat.ne_of_lt (old _ _ e3), Nat.ne_of_lt (Nat.lt_trans (old _ _ e3) dk), e3⟩
  · obtain ⟨o, es, ep, ho, r⟩ := hnew
    exact ⟨o, es, ep, Heap.get?_push_of_some _ (hk₁ _ _ ho), r⟩
  · intro g
    unfold fUpTo
    rw [if_neg (by omega)]
    rfl
  · intro b o _ _ e
    exact Heap.get?_push_of_some _ (hk₁ _ _ (Heap.get?_push_of_some _ e))
  · intro h' tk kvs D a1 a2 a3 a4
    obtain ⟨o, ho, hd'⟩ := Heap.dictOf_iff.mp a1
    have keep : ∀ b o, s.heap.get? b = some o → h'.get? b = some o := fun b o e => a4 b o (Nat.ne_of_lt (old _ _ e)) (Nat.ne_of_lt (Nat.lt_trans (old _ _ e) dk)) e
    have N1 := News.push Fm N { cls := .type "dict", data := .dict #[] }
    exact ⟨rfl, h _ h' tk o kvs D ⟨Fm.ns.at' fun o e => keep _ _ e, fun b o e => keep _ _ (Fm.keep b o e), Fm.above⟩ (fun p hp => by
      rcases List.mem_cons.mp hp with rfl | hp
      · exact ⟨ho, (N1 _ (.head _)).2.1, (N1 _ (.head _)).2.2⟩
      · exact ⟨keep _ _ (N p hp).1, (N p hp).2⟩) (fun p hp => old _ _ (N p hp).1) (Fm.notModules hbig) hd' a2 a3⟩

end Mine
theorem Mine.anew_DP : True := by
  w_top off
  first | (walk1; done) | trivial

open PySem PySem.W PySem.Spec PySem.Calls PyProof.Rows PyProof.V
namespace Mine

section
variable {rows : List (Int × Str)} {ig : Int → Bool} {bs as : List (Int → Bool)} {i gv b e b' e' n : Int}
theorem mirB (hB : ∀ ig, scanAll rows.reverse ig 1 bs ((rows.length : Int) - 1 - i) = mir rows.length (scanAll rows ig (-1) bs i))
    (p4 : b = scanAll rows ig (-1) bs i) (p5 : e' = scanAll rows.reverse ig 1 bs ((rows.length : Int) - 1 - i)) (p2 : 0 ≤ b) : b = (rows.length : Int) - 1 - e' := by
  rw [hB, ← p4] at p5
  unfold mir at p5
  rw [if_neg (by omega)] at p5
  omega
theorem mirE (hE : ∀ ig, scanAll rows.reverse ig (-1) as ((rows.length : Int) - 1 - i) = mir rows.length (scanAll rows ig 1 as i))
    (p4 : e = scanAll rows ig 1 as i) (p5 : b' = scanAll rows.reverse ig (-1) as ((rows.length : Int) - 1 - i)) (p2 : 0 ≤ e) : e = (rows.length : Int) - 1 - b' := by
  rw [hE, ← p4] at p5
  unfold mir at p5
  rw [if_neg (by omega)] at p5
  omega
theorem absB (hB : ∀ ig, scanAll rows.reverse ig 1 bs ((rows.length : Int) - 1 - i) = mir rows.length (scanAll rows ig (-1) bs i))
    (hE : ∀ ig, scanAll rows.reverse ig (-1) as ((rows.length : Int) - 1 - i) = mir rows.length (scanAll rows ig 1 as i))
    (hg : getg rows.reverse ((rows.length : Int) - 1 - i) = getg rows i)
    (rB : ∀ ig, scanAll rows ig (-1) bs i = -1 ∨ (0 ≤ scanAll rows ig (-1) bs i ∧ scanAll rows ig (-1) bs i < rows.length))
    (rE : ∀ ig, scanAll rows ig 1 as i = -1 ∨ (0 ≤ scanAll rows ig 1 as i ∧ scanAll rows ig 1 as i < rows.length))
    (er : ¬ (decide (gv = getg rows.reverse ((rows.length : Int) - 1 - i)) = true ∧ 0 ≤ scanAll rows.reverse ig (-1) as ((rows.length : Int) - 1 - i) ∧ 0 ≤ scanAll rows.reverse ig 1 bs ((rows.length : Int) - 1 - i)))
    (p1 : decide (gv = getg rows i) = true) (p4 : b = scanAll rows ig (-1) bs i) (p5 : e = scanAll rows ig 1 as i) (p2 : 0 ≤ b) (p3 : 0 ≤ e) : False := by
  have r1 := rB ig
  have r2 := rE ig
  refine er ⟨by rw [hg]; exact p1, ?_, ?_⟩
  · rw [hE]; unfold mir; rw [if_neg (by omega)]; omega
  · rw [hB]; unfold mir; rw [if_neg (by omega)]; omega
theorem absC (hB : ∀ ig, scanAll rows.reverse ig 1 bs ((rows.length : Int) - 1 - i) = mir rows.length (scanAll rows ig (-1) bs i))
    (hE : ∀ ig, scanAll rows.reverse ig (-1) as ((rows.length : Int) - 1 - i) = mir rows.length (scanAll rows ig 1 as i))
    (hg : getg rows.reverse ((rows.length : Int) - 1 - i) = getg rows i)
    (er : ¬ (decide (gv = getg rows i) = true ∧ 0 ≤ scanAll rows ig (-1) bs i ∧ 0 ≤ scanAll rows ig 1 as i))
    (p1 : decide (gv = getg rows.reverse ((rows.length : Int) - 1 - i)) = true) (p4 : b' = scanAll rows.reverse ig (-1) as ((rows.length : Int) - 1 - i)) (p5 : e' = scanAll rows.reverse ig 1 bs ((rows.length : Int) - 1 - i))
    (p2 : 0 ≤ b') (p3 : 0 ≤ e') : False := by
  rw [hE] at p4
  rw [hB] at p5
  refine er ⟨by rw [hg] at p1; exact p1, ?_, ?_⟩
  · unfold mir at p5; split at p5 <;> omega
  · unfold mir at p4; split at p4 <;> omega
theorem loneN (h0 : 0 ≤ i) (er : ¬ (decide (gv = getg rows i) = true ∧ 0 ≤ scanAll rows ig (-1) [] i ∧ 0 ≤ scanAll rows ig 1 [] i)) : gv ≠ getg rows i := by
  intro e
  exact er ⟨decide_eq_true e, h0, h0⟩
theorem loneT (h : decide (gv = getg rows i) = true) : (getg rows i == gv) = true := by rw [of_decide_eq_true h]; exact beq_self_eq_true _
theorem loneF (h0 : 0 ≤ i) (er : ¬ (decide (gv = getg rows i) = true ∧ 0 ≤ scanAll rows ig (-1) [] i ∧ 0 ≤ scanAll rows ig 1 [] i)) : (getg rows i == gv) = false := by
  have h := loneN h0 er
  exact beq_false_of_ne (Ne.symm h)
theorem loneB (p4 : b = scanAll rows ig (-1) [] i) : b = i := p4
theorem loneE (p4 : e = scanAll rows ig 1 [] i) : e = i := p4
end

section
variable {w : World} {prog : Program} {A : Around} {E : Value → Shared → Prop} {h₀ : Heap} {L : Addr} {s : Shared} {news : List (Addr × Obj)} {Q : Value → Shared → Prop}
theorem ne_trip {a b pa pb : Addr} {x1 x2 y1 y2 z v : Int} {t1 t2 u1 u2 t u : Tok} {n n' n3 n4 : Nat} (N : News h₀ L s.heap news)
    (m1 : (a, ({ cls := .type "tuple", data := .seq #[.ref pa, .int x1 t1, .int x2 t2] n } : Obj)) ∈ news)
    (m2 : (b, ({ cls := .type "tuple", data := .seq #[.ref pb, .int y1 u1, .int y2 u2] n' } : Obj)) ∈ news)
    (m3 : (pa, listOf #[.int z t] n3) ∈ news) (m4 : (pb, listOf #[.int v u] n4) ∈ news) (hu : A.units + 64 < cLine)
    (hz : z = v) (h1 : x1 = y1) (h2 : x2 = y2) (h : Q (.bool false) s) : wpAny (model prog w) A (compareOp .NotEq (.ref a) (.ref b)) Q E s := by
  subst hz h1 h2
  refine ne_dataH (da := .tuple [.list [.int z], .int x1, .int x2]) (db := .tuple [.list [.int z], .int x1, .int x2])
    (reads_tuple_at (N _ m1).1 rfl rfl (.cons (reads_list_at (N _ m3).1 rfl rfl (.cons (.int _ _) .nil)) (.cons (.int _ _) (.cons (.int _ _) .nil))))
    (reads_tuple_at (N _ m2).1 rfl rfl (.cons (reads_list_at (N _ m4).1 rfl rfl (.cons (.int _ _) .nil)) (.cons (.int _ _) (.cons (.int _ _) .nil)))) rfl rfl hu ?_
  simp only [PyData.eqv, PyData.eqvAll, beq_self_eq_true, decide_true, Bool.and_true, Bool.not_true]
  exact h
end
end Mine
theorem Mine.anew_LE : True := by
  w_top off
  first | (walk1; done) | trivial

open PySem PySem.W PySem.Spec PySem.Calls PyProof.Rows PyProof.V
set_option Elab.async false
set_option maxRecDepth 100000
set_option maxHeartbeats 8000000
namespace Mine

local macro_rules | `(tactic| tb_start) => `(tactic| (
  refine' Cx.mk ?cxB ?cxF ?cxX ?cxN ?cxT ?cxk ?cxd ?cxu
  (case cxB => k_asm); (case cxF => k_asm); (case cxX => k_asm); (case cxN => k_asm); (case cxT => k_asm)
  (case cxk => first | exact rfl | assumption); (case cxd => ktr_room); (case cxu => ktr_units)))
local macro_rules | `(tactic| row_tight) => `(tactic| first
  | with_reducible assumption
  | exact And.right (by with_reducible assumption)
  | exact And.right (And.right (by with_reducible assumption))
  | exact And.right (And.right (And.right (by with_reducible assumption)))
  | exact And.right (And.right (And.right (And.right (by with_reducible assumption))))
  | exact And.right (And.right (And.right (And.right (And.right (by with_reducible assumption)))))
  | exact And.right (And.right (And.right (And.right (And.right (And.right (by with_reducible assumption)))))))
local macro_rules | `(tactic| row_head_pins) => `(tactic| first | with_reducible assumption | with_reducible exact List.mem_cons_self | ((with_reducible refine List.mem_cons_of_mem _ ?_); row_head_pins))
local macro_rules | `(tactic| k_mem) => `(tactic| row_head_pins)
local macro_rules | `(tactic| k_all) => `(tactic| first | with_reducible assumption | exact fun p hp => Nat.ne_of_lt (allLt_mem (by row_tight) p hp))

def DictR (w : World) (h₀ : Heap) (L : Addr) (m : Str → Option Value) (pl : Addr) (rest : List (Addr × Obj)) (s₁ : Shared) (v : Value) (s' : Shared) : Prop :=
  ∃ dd rest' h' tk' po f, v = .ref dd ∧ s' = { s₁ with heap := h', toks := tk' } ∧ Fr h₀ L h' m ∧ News h₀ L h' ((pl, po) :: rest') ∧ PoolO po ∧ (∀ p ∈ rest', p.1 ≠ pl) ∧ (∀ p ∈ rest, p ∈ rest') ∧ HeldAt w rest' dd f

theorem join_dict {w : World} {A : Around} {E : Value → Shared → Prop} {h₀ : Heap} {L : Addr} {m : Str → Option Value} {s : Shared} {pl : Addr} {rest : List (Addr × Obj)} {t : Sem Value} {Q : Value → Shared → Prop}
    (fF : Fr h₀ L s.heap m) (h : wpAny (model PySem.Challenge.rw_pb0191_01.row.prog w) A t (DictR w h₀ L m pl rest s) E s)
    (k : ∀ dd rest' h' tk' po f, Fr h₀ L h' m → News h₀ L h' ((pl, po) :: rest') → PoolO po → (∀ p ∈ rest', p.1 ≠ pl) → (∀ p ∈ rest, p ∈ rest') → HeldAt w rest' dd f → Q (.ref dd) { s with heap := h', toks := tk' }) :
    wpAny (model PySem.Challenge.rw_pb0191_01.row.prog w) A t Q E s :=
  wpAny_mono h (fun v s' q => by
    obtain ⟨dd, rest', h', tk', po, f, rfl, rfl, F', N', P', n', i', H⟩ := q
    exact k dd rest' h' tk' po f F' N' P' n' i' H) fun _ _ e => e

def fOf (D : List (PyData × PyData)) (g : Int) : Int := match (lookup (.int g) D).getD (.int 0) with | .int v => v | _ => 0

theorem fOf_put {D : List (PyData × PyData)} (h : ∀ g, (lookup (.int g) D).getD (.int 0) = .int (fOf D g)) (k v g : Int) :
    (lookup (.int g) (putD (.int k) (.int v) D)).getD (.int 0) = .int (fOf (putD (.int k) (.int v) D) g) := by
  unfold fOf
  by_cases e : g = k
  · subst e; rw [lookup_putD_same]; rfl
  · rw [lookup_putD_other e]; exact h g
theorem fOf_nil (g : Int) : (lookup (.int g) ([] : List (PyData × PyData))).getD (.int 0) = .int (fOf [] g) := rfl
theorem fOf_1 (a b c d : Tok) (g : Int) : (lookup (.int g) (intData [(Value.int 0 a, Value.int 1 b), (Value.int 2 c, Value.int 1 d)])).getD (.int 0) = .int (fOf (intData [(Value.int 0 a, Value.int 1 b), (Value.int 2 c, Value.int 1 d)]) g) :=
  fOf_put (fun g => fOf_put fOf_nil 0 1 g) 2 1 g
theorem fOf_2 (a b : Tok) (g : Int) : (lookup (.int g) (intData [(Value.int 1 a, Value.int 1 b)])).getD (.int 0) = .int (fOf (intData [(Value.int 1 a, Value.int 1 b)]) g) :=
  fOf_put fOf_nil 1 1 g

theorem dictR_intro {w : World} {h₀ h' : Heap} {L dd pl : Addr} {m : Str → Option Value} {od po : Obj} {rest : List (Addr × Obj)} {kvs : List (Int × Value)} {D : List (PyData × PyData)} {s₁ : Shared} {tk : Nat}
    (F : Fr h₀ L h' m) (N : News h₀ L h' ((dd, od) :: (pl, po) :: rest)) (P : PoolO po) (hne : ∀ p ∈ rest, p.1 ≠ pl) (l1 : pl < dd ∧ AllLt dd rest) (lo : (dd == sysModules) = false)
    (hd : od.IsDictOf (intKind PySem.Challenge.rw_pb0191_01.row.prog w) kvs) (hf : FlatPairs PyData.int kvs D) (hl : ∀ g, (lookup (.int g) D).getD (.int 0) = .int (fOf D g)) :
    DictR w h₀ L m pl rest s₁ (.ref dd) { s₁ with heap := h', toks := tk } := by
  refine ⟨dd, (dd, od) :: rest, h', tk, po, fOf D, rfl, rfl, F, kst_newsOf N ?_, P, ?_, fun p hp => .tail _ hp, od, kvs, D, .head _, lo, hd, hf, hl⟩
  · intro p hp
    rcases List.mem_cons.mp hp with rfl | hp
    · exact .tail _ (.head _)
    rcases List.mem_cons.mp hp with rfl | hp
    · exact .head _
    · exact .tail _ (.tail _ hp)
  · intro p hp
    rcases List.mem_cons.mp hp with rfl | hp
    · exact Nat.ne_of_gt l1.1
    · exact hne p hp

theorem pack_pool {h₀ h : Heap} {L D D1 : Addr} {ys : List Value} {o1 oc : Obj} {ns : List Int} (N : News h₀ L h [(D, LCg.lst ys), (D1, o1), (L + 1, oc)])
    (hd : oc.data = .cell (some (.ref D))) (hi : IntsAre ys ns) (h1 : D1 ≠ D ∧ L + 1 ≠ D) (hlen : ns.length ≤ 24) (hns : ∀ x ∈ ns, 0 ≤ x ∧ x < 10 ^ 80) :
    ∃ pl po rest, News h₀ L h ((pl, po) :: rest) ∧ (∀ p ∈ rest, p.1 ≠ pl) ∧ PoolO po ∧ ∃ oc, (L + 1, oc) ∈ rest ∧ oc.data = .cell (some (.ref pl)) := by
  refine ⟨D, LCg.lst ys, [(D1, o1), (L + 1, oc)], N, ?_, ⟨ys, ns, ys.length, rfl, hi, hlen, hns⟩, oc, .tail _ (.head _), hd⟩
  intro p hp
  rcases List.mem_cons.mp hp with rfl | hp
  · exact h1.1
  rcases List.mem_cons.mp hp with rfl | hp
  · exact h1.2
  · cases hp

section
variable {w : World} {prog : Program} {A : Around} {E : Value → Shared → Prop} {h₀ : Heap} {L : Addr} {m : Str → Option Value} {s : Shared} {news : List (Addr × Obj)} {Q : Value → Shared → Prop}

theorem ldPool {M : Model} {scope : Scope} {cl : List (Str × Addr)} {C : Addr} {env : Env} {x : Str} {pos : Pos} {c : Addr} {oc : Obj} {v : Value} (N : News h₀ L s.heap news) (hc : cl.lookup x = some c) (hm : (c, oc) ∈ news) (hd : oc.data = .cell (some v)) (h : Q v s)
    (hk : (compEnvC scope cl C env).scope.kind = .function := by rfl) (hl : (compEnvC scope cl C env).kindOf x = some .cell := by rfl) (hdb : (x == ("__debug__" : Str)) = false := by decide) :
    wpAny M A (eval (.Name x pos) (compEnvC scope cl C env)) Q E s := ldCellK hc ⟨oc, (N _ hm).1, hd⟩ h hk hl hdb

theorem item_strs_any {value slice : PySem.Expr} {tp : Addr} {vs : List Value} {n : Nat} {k : Int} {u : Tok} (N : News h₀ L s.heap news)
    (hm : (tp, ({ cls := .type "tuple", data := .seq vs.toArray n } : Obj)) ∈ news) (hall : ∀ v ∈ vs, ∃ (x : Str) (t : Tok), v = .str x t) (h0 : 0 ≤ k) (h1 : k < vs.length) (hl : vs.length < 100)
    (h : ∀ x t, Q (.str x t) s)
    (hs : subscripted slice false (.ref tp) (.int k u) = operate [.ref tp, .int k u] (getItem (.ref tp) (.int k u)) := by with_unfolding_all rfl)
 :
    wpAny (model prog w) A (subscriptTail value slice (.ref tp) (.int k u)) Q E s := by
  have hk : k.toNat < vs.length := by omega
  obtain ⟨x, t, e⟩ := hall _ (List.getElem_mem hk)
  refine item_tupleT (j := k.toNat) (News.isTup (n := n) N hm) (by omega) (by omega) (by simp [seqIndex?]; omega) (x := .str x t) (by simp [hk, e]) (h x t) hs
end

theorem pack_cls {w : World} {h₀ h : Heap} {L pl x d dd : Addr} {po : Obj} {rest : List (Addr × Obj)} {hsh : Int} {kt : Tok} {n : Nat} {f : Int → Int}
    (N : News h₀ L h ((x, instObj 286 d) :: (d, dictOf [⟨hsh, .str "classes" kt, .ref dd⟩] n) :: (pl, po) :: rest)) (hne : ∀ p ∈ rest, p.1 ≠ pl) (q1 : pl < d ∧ AllLt d rest) (q2 : d < x) (H : HeldAt w rest dd f) :
    ∃ rest', News h₀ L h ((pl, po) :: rest') ∧ (∀ p ∈ rest', p.1 ≠ pl) ∧ (∀ p ∈ rest, p ∈ rest') ∧ CdAt w rest' x f := by
  obtain ⟨od, kvs, D, a1, a2, a3, a4, a5⟩ := H
  refine ⟨(x, instObj 286 d) :: (d, dictOf [⟨hsh, .str "classes" kt, .ref dd⟩] n) :: rest, kst_newsOf N ?_, ?_, fun p hp => .tail _ (.tail _ hp),
    d, dd, hsh, kt, n, od, kvs, D, .head _, .tail _ (.head _), .tail _ (.tail _ a1), a2, a3, a4, a5⟩
  · intro p hp
    simp only [List.mem_cons] at hp ⊢
    rcases hp with h | h | h | h
    · exact .inr (.inr (.inl h))
    · exact .inl h
    · exact .inr (.inl h)
    · exact .inr (.inr (.inr h))
  · intro p hp
    rcases List.mem_cons.mp hp with rfl | hp
    · exact Nat.ne_of_gt (Nat.lt_trans q1.1 q2)
    rcases List.mem_cons.mp hp with rfl | hp
    · exact Nat.ne_of_gt q1.1
    · exact hne p hp

section
variable {w : World} {prog : Program} {A : Around} {E : Value → Shared → Prop} {h₀ : Heap} {L : Addr} {m : Str → Option Value} {s : Shared} {news : List (Addr × Obj)} {Q : Value → Shared → Prop}
theorem item_flag {value slice : PySem.Expr} {tp : Addr} {a b c d : Tok} {n : Nat} {k : Int} {u : Tok} (N : News h₀ L s.heap news)
    (hm : (tp, ({ cls := .type "tuple", data := .seq #[.int 0 a, .int 2 b, .int 4 c, .int 8 d] n } : Obj)) ∈ news) (h0 : 0 ≤ k) (h1 : k < 4)
    (h : ∀ x t, (x = 0 ∨ x = 2 ∨ x = 4 ∨ x = 8) → Q (.int x t) s)
    (hs : subscripted slice false (.ref tp) (.int k u) = operate [.ref tp, .int k u] (getItem (.ref tp) (.int k u)) := by with_unfolding_all rfl) :
    wpAny (model prog w) A (subscriptTail value slice (.ref tp) (.int k u)) Q E s := by
  have hT : IsTup s.heap tp [Value.int 0 a, .int 2 b, .int 4 c, .int 8 d].toArray := News.isTup (n := n) N hm
  rcases (show k = 0 ∨ k = 1 ∨ k = 2 ∨ k = 3 by omega) with rfl | rfl | rfl | rfl
  · exact item_tupleT (j := 0) hT (by omega) (by omega) rfl rfl (h _ _ (.inl rfl)) hs
  · exact item_tupleT (j := 1) hT (by omega) (by omega) rfl rfl (h _ _ (.inr (.inl rfl))) hs
  · exact item_tupleT (j := 2) hT (by omega) (by omega) rfl rfl (h _ _ (.inr (.inr (.inl rfl)))) hs
  · exact item_tupleT (j := 3) hT (by omega) (by omega) rfl rfl (h _ _ (.inr (.inr (.inr rfl)))) hs
end

theorem HeldAt.mono {w : World} {news news' : List (Addr × Obj)} {dd : Addr} {f : Int → Int} (h : HeldAt w news dd f) (hs : ∀ p ∈ news, p ∈ news') : HeldAt w news' dd f := by
  obtain ⟨od, kvs, D, a1, r⟩ := h
  exact ⟨od, kvs, D, hs _ a1, r⟩

theorem pack4 {h₀ h : Heap} {L l x : Addr} {ol ox : Obj} {y z : Addr × Obj} {rest : List (Addr × Obj)} (N : News h₀ L h ((l, ol) :: (x, ox) :: y :: z :: rest)) :
    ∃ led, News h₀ L h led ∧ (∀ p ∈ rest, p ∈ led) ∧ (l, ol) ∈ led ∧ (x, ox) ∈ led :=
  ⟨_, N, fun p hp => .tail _ (.tail _ (.tail _ (.tail _ hp))), .head _, .tail _ (.head _)⟩

theorem rows_rev {news : List (Addr × Obj)} {rl rl' : Addr} {rows : List (Int × Str)} {its : Array Value} {n n' : Nat}
    (h2 : its.size = rows.length) (h3 : ∀ i, i < rows.length → ∃ x t t' n', its[i]? = some (.ref x) ∧ (x, tupObj [.int (rows.getD i d0).1 t, .str (rows.getD i d0).2 t'] n') ∈ news)
    (hm : (rl', listOf (List.toArray its.toList.reverse) n') ∈ news) : RowsAt news rl' rows.reverse := by
  refine ⟨_, _, hm, by simp [h2], fun i hi => ?_⟩
  rw [List.length_reverse] at hi
  obtain ⟨x, t, t', n1, e, q⟩ := h3 (rows.length - 1 - i) (by omega)
  have e1 : (rows.reverse).getD i d0 = rows.getD (rows.length - 1 - i) d0 := by
    rw [List.getD_eq_getElem?_getD, List.getD_eq_getElem?_getD, List.getElem?_reverse hi]
  refine ⟨x, t, t', n1, ?_, by rw [e1]; exact q⟩
  have hs : i < its.toList.length := by simp [h2]; exact hi
  show (List.toArray its.toList.reverse)[i]? = _
  rw [List.getElem?_toArray, List.getElem?_reverse hs]
  simp only [Array.length_toList, h2, Array.getElem?_toList]
  exact e

section
variable {w : World} {prog : Program} {A : Around} {E : Value → Shared → Prop} {h₀ : Heap} {L : Addr} {m : Str → Option Value} {s : Shared} {news : List (Addr × Obj)} {Q : Value → Shared → Prop}
theorem item_rows {value slice : PySem.Expr} {rl : Addr} {rows : List (Int × Str)} {k : Int} {u : Tok} (N : News h₀ L s.heap news) (hr : RowsAt news rl rows) (h0 : 0 ≤ k) (h1 : k < rows.length) (hl : rows.length < 1000)
    (h : ∀ x t t' n', (x, tupObj [.int (getg rows k) t, .str (getk rows k) t'] n') ∈ news → Q (.ref x) s)
    (hs : subscripted slice false (.ref rl) (.int k u) = operate [.ref rl, .int k u] (getItem (.ref rl) (.int k u)) := by with_unfolding_all rfl) :
    wpAny (model prog w) A (subscriptTail value slice (.ref rl) (.int k u)) Q E s := by
  obtain ⟨its, n, hm, hsz, hi⟩ := hr
  obtain ⟨x, t, t', n', e, q⟩ := hi k.toNat (by omega)
  have hL := News.isList (n := n) N hm
  exact tail_any hL.typeIs slot_list_getitem.lookup (wpAny_getItem_list hL h0 (by omega) e (h x t t' n' q)) hs
theorem item_t20 {value slice : PySem.Expr} {tp : Addr} {x y : Value} {n : Nat} {u : Tok} (N : News h₀ L s.heap news) (hm : (tp, ({ cls := .type "tuple", data := .seq #[x, y] n } : Obj)) ∈ news) (h : Q x s)
    (hs : subscripted slice false (.ref tp) (.int 0 u) = operate [.ref tp, .int 0 u] (getItem (.ref tp) (.int 0 u)) := by with_unfolding_all rfl) :
    wpAny (model prog w) A (subscriptTail value slice (.ref tp) (.int 0 u)) Q E s :=
  item_tupleT (l := [x, y]) (j := 0) (News.isTup (n := n) N hm) (by decide) (by decide) rfl rfl h hs
theorem item_t21 {value slice : PySem.Expr} {tp : Addr} {x y : Value} {n : Nat} {u : Tok} (N : News h₀ L s.heap news) (hm : (tp, ({ cls := .type "tuple", data := .seq #[x, y] n } : Obj)) ∈ news) (h : Q y s)
    (hs : subscripted slice false (.ref tp) (.int 1 u) = operate [.ref tp, .int 1 u] (getItem (.ref tp) (.int 1 u)) := by with_unfolding_all rfl) :
    wpAny (model prog w) A (subscriptTail value slice (.ref tp) (.int 1 u)) Q E s :=
  item_tupleT (l := [x, y]) (j := 1) (News.isTup (n := n) N hm) (by decide) (by decide) rfl rfl h hs
theorem item_tri0 {value slice : PySem.Expr} {tp : Addr} {x y z : Value} {n : Nat} {u : Tok} (N : News h₀ L s.heap news) (hm : (tp, ({ cls := .type "tuple", data := .seq #[x, y, z] n } : Obj)) ∈ news) (h : Q x s)
    (hs : subscripted slice false (.ref tp) (.int 0 u) = operate [.ref tp, .int 0 u] (getItem (.ref tp) (.int 0 u)) := by with_unfolding_all rfl) :
    wpAny (model prog w) A (subscriptTail value slice (.ref tp) (.int 0 u)) Q E s :=
  item_tupleT (l := [x, y, z]) (j := 0) (News.isTup (n := n) N hm) (by decide) (by decide) rfl rfl h hs
theorem item_tri1 {value slice : PySem.Expr} {tp : Addr} {x y z : Value} {n : Nat} {u : Tok} (N : News h₀ L s.heap news) (hm : (tp, ({ cls := .type "tuple", data := .seq #[x, y, z] n } : Obj)) ∈ news) (h : Q y s)
    (hs : subscripted slice false (.ref tp) (.int 1 u) = operate [.ref tp, .int 1 u] (getItem (.ref tp) (.int 1 u)) := by with_unfolding_all rfl) :
    wpAny (model prog w) A (subscriptTail value slice (.ref tp) (.int 1 u)) Q E s :=
  item_tupleT (l := [x, y, z]) (j := 1) (News.isTup (n := n) N hm) (by decide) (by decide) rfl rfl h hs
theorem item_tri2 {value slice : PySem.Expr} {tp : Addr} {x y z : Value} {n : Nat} {u : Tok} (N : News h₀ L s.heap news) (hm : (tp, ({ cls := .type "tuple", data := .seq #[x, y, z] n } : Obj)) ∈ news) (h : Q z s)
    (hs : subscripted slice false (.ref tp) (.int 2 u) = operate [.ref tp, .int 2 u] (getItem (.ref tp) (.int 2 u)) := by with_unfolding_all rfl) :
    wpAny (model prog w) A (subscriptTail value slice (.ref tp) (.int 2 u)) Q E s :=
  item_tupleT (l := [x, y, z]) (j := 2) (News.isTup (n := n) N hm) (by decide) (by decide) rfl rfl h hs
theorem item_l1 {value slice : PySem.Expr} {l : Addr} {x : Value} {n : Nat} {u : Tok} (N : News h₀ L s.heap news) (hm : (l, listOf #[x] n) ∈ news) (h : Q x s)
    (hs : subscripted slice false (.ref l) (.int 0 u) = operate [.ref l, .int 0 u] (getItem (.ref l) (.int 0 u)) := by with_unfolding_all rfl) :
    wpAny (model prog w) A (subscriptTail value slice (.ref l) (.int 0 u)) Q E s :=
  item_lit (its := #[x]) N hm (by decide) (by decide) rfl h hs
end

theorem pack_rev {h₀ h : Heap} {L rl' : Addr} {rows : List (Int × Str)} {its : Array Value} {n' : Nat} {rest : List (Addr × Obj)} (N : News h₀ L h ((rl', listOf (List.toArray its.toList.reverse) n') :: rest))
    (h2 : its.size = rows.length) (h3 : ∀ i, i < rows.length → ∃ x t t' n', its[i]? = some (.ref x) ∧ (x, tupObj [.int (rows.getD i d0).1 t, .str (rows.getD i d0).2 t'] n') ∈ rest) :
    ∃ led, News h₀ L h led ∧ (∀ p ∈ rest, p ∈ led) ∧ RowsAt led rl' rows.reverse :=
  ⟨_, N, fun p hp => .tail _ hp, rows_rev (rl := rl') (n := 0) h2 (fun i hi => let ⟨x, t, t', n1, e, q⟩ := h3 i hi; ⟨x, t, t', n1, e, .tail _ q⟩) (.head _)⟩
theorem testOf {w : World} {sc : Addr} {fl : Int} {fr : Int → Int} {rows : List (Int × Str)} {news : List (Addr × Obj)} {x : Addr} {g : Int} {t t' : Tok} {n : Nat} (fS : ScAt w news sc fl fr rows) (h : (x, ({ cls := .type "tuple", data := .seq #[.str (Str.ofString "glyph") t, .int g t'] n } : Obj)) ∈ news) :
    TestAt w news x (fun i => decide (g = i)) := .inl ⟨g, t, t', n, h, fun _ => rfl⟩
theorem pack_one {h₀ h : Heap} {L : Addr} {p : Addr × Obj} {rest : List (Addr × Obj)} (N : News h₀ L h (p :: rest)) : ∃ led, News h₀ L h led ∧ (∀ p ∈ rest, p ∈ led) ∧ p ∈ led :=
  ⟨_, N, fun p hp => .tail _ hp, .head _⟩

section
variable {w : World} {prog : Program} {A : Around} {E : Value → Shared → Prop} {h₀ : Heap} {L : Addr} {m : Str → Option Value} {s : Shared} {news : List (Addr × Obj)} {Q : Value → Shared → Prop}
theorem len_rows {rl : Addr} {rows : List (Int × Str)} (N : News h₀ L s.heap news) (hr : RowsAt news rl rows) (hfit : rows.length < 1000)
    (h : Q (.int rows.length (s.toks + 1)) { s with toks := s.toks + 1 + 1 }) :
    wpAny (model prog w) A (call (.builtin "len") [.ref rl]) Q E s := by
  obtain ⟨its, n, hm, hl, hi⟩ := hr
  refine Calls.call_len_list (News.isList (n := n) N hm) (by omega) ?_
  rw [hl]; exact h
end

theorem RowsAt.mono {news news' : List (Addr × Obj)} {rl : Addr} {rows : List (Int × Str)} (h : RowsAt news rl rows) (hs : ∀ p ∈ news, p ∈ news') : RowsAt news' rl rows := by
  obtain ⟨its, n, h1, h2, h3⟩ := h
  refine ⟨its, n, hs _ h1, h2, fun i hi => ?_⟩
  obtain ⟨x, t, t', n', e, q⟩ := h3 i hi
  exact ⟨x, t, t', n', e, hs _ q⟩

def RInv (pl : Addr) (base : List (Addr × Obj)) (i : Nat) (ys : List Value) (nx : List (Addr × Obj)) : Prop :=
  ∃ (o' : Obj) (rest' : List (Addr × Obj)) (rows : List (Int × Str)), nx = (pl, o') :: rest' ∧ PoolO o' ∧ (∀ p ∈ base, p ∈ rest') ∧ (∀ p ∈ rest', p.1 ≠ pl) ∧ rows.length = i ∧ ys.length = i ∧
    ∀ j, j < i → ∃ x t t' n', ys[j]? = some (.ref x) ∧ (x, tupObj [.int (rows.getD j d0).1 t, .str (rows.getD j d0).2 t'] n') ∈ rest'

section
variable {h₀ h' : Heap} {L : Addr} {m : Str → Option Value}
theorem RInv.push {D2 tp C D I pl : Addr} {otp oC oD oI o o' : Obj} {base rest' : List (Addr × Obj)} {rows : List (Int × Str)} {ys : List Value} {i n tk : Nat} {g : Int} {t t' : Tok} {x : Str} {s₁ : Shared}
    (F : Fr h₀ L h' m) (N : News h₀ L h' ((D2, { cls := .type "tuple", data := .seq #[.int g t, .str x t'] n }) :: (tp, otp) :: (C, oC) :: (D, oD) :: (I, oI) :: (pl, o') :: rest'))
    (P' : PoolO o') (a1 : ∀ p ∈ base, p ∈ rest') (a2 : ∀ p ∈ rest', p.1 ≠ pl) (a3 : rows.length = i) (a4 : ys.length = i)
    (a5 : ∀ j, j < i → ∃ x t t' n', ys[j]? = some (.ref x) ∧ (x, tupObj [.int (rows.getD j d0).1 t, .str (rows.getD j d0).2 t'] n') ∈ rest')
    (hoff : ∀ p ∈ (pl, o) :: rest', p.1 ≠ I ∧ p.1 ≠ D ∧ p.1 ≠ C) (l1 : C < tp ∧ D < tp ∧ I < tp ∧ pl < tp ∧ AllLt tp rest') (l2 : tp < D2 ∧ C < D2 ∧ D < D2 ∧ I < D2 ∧ pl < D2 ∧ AllLt D2 rest') :
    EltEnd h₀ L m (RInv pl base) C D I oC oD oI i ys s₁ (.ref D2) { s₁ with heap := h', toks := tk } := by
  refine ⟨h', tk, (pl, o') :: (D2, { cls := .type "tuple", data := .seq #[.int g t, .str x t'] n }) :: (tp, otp) :: rest', rfl, F, kst_newsOf N ?_, ?_,
    o', (D2, { cls := .type "tuple", data := .seq #[.int g t, .str x t'] n }) :: (tp, otp) :: rest', rows ++ [(g, x)], rfl, P', fun p hp => .tail _ (.tail _ (a1 p hp)), ?_, by simp [a3], by simp [a4], ?_⟩
  · intro p hp
    simp only [List.mem_cons] at hp ⊢
    rcases hp with h | h | h | h | h | h | h
    · exact .inr (.inr (.inl h))
    · exact .inr (.inr (.inr (.inl h)))
    · exact .inr (.inr (.inr (.inr (.inl h))))
    · exact .inr (.inr (.inr (.inr (.inr (.inl h)))))
    · exact .inl h
    · exact .inr (.inl h)
    · exact .inr (.inr (.inr (.inr (.inr (.inr h)))))
  · intro p hp
    rcases List.mem_cons.mp hp with rfl | hp
    · exact hoff (pl, o) (.head _)
    rcases List.mem_cons.mp hp with rfl | hp
    · exact ⟨Nat.ne_of_gt l2.2.2.2.1, Nat.ne_of_gt l2.2.2.1, Nat.ne_of_gt l2.2.1⟩
    rcases List.mem_cons.mp hp with rfl | hp
    · exact ⟨Nat.ne_of_gt l1.2.2.1, Nat.ne_of_gt l1.2.1, Nat.ne_of_gt l1.1⟩
    · exact hoff p (.tail _ hp)
  · intro p hp
    rcases List.mem_cons.mp hp with rfl | hp
    · exact Nat.ne_of_gt l2.2.2.2.2.1
    rcases List.mem_cons.mp hp with rfl | hp
    · exact Nat.ne_of_gt l1.2.2.2.1
    · exact a2 p hp
  · intro j hj
    by_cases hlt : j < i
    · obtain ⟨z, t1, t2, n1, e, r⟩ := a5 j hlt
      refine ⟨z, t1, t2, n1, by rw [List.getElem?_append_left (by rw [a4]; exact hlt)]; exact e, .tail _ (.tail _ ?_)⟩
      rw [List.getD_eq_getElem?_getD, List.getElem?_append_left (by rw [a3]; exact hlt), ← List.getD_eq_getElem?_getD]
      exact r
    · have : j = i := by omega
      subst this
      refine ⟨D2, t, t', n, by rw [← a4]; simp, ?_⟩
      have e : (rows ++ [(g, x)]).getD j d0 = (g, x) := by rw [← a3]; simp
      rw [e]
      exact .head _

theorem pull1 {x pl : Addr} {ox o : Obj} {rest : List (Addr × Obj)} (N : News h₀ L h' ((x, ox) :: (pl, o) :: rest)) (hne : ∀ p ∈ rest, p.1 ≠ pl) (l : x ≠ pl) :
    ∃ rest', News h₀ L h' ((pl, o) :: rest') ∧ (∀ p ∈ rest', p.1 ≠ pl) ∧ (∀ p ∈ rest, p ∈ rest') ∧ (x, ox) ∈ rest' := by
  refine ⟨(x, ox) :: rest, kst_newsOf N ?_, ?_, fun p hp => .tail _ hp, .head _⟩
  · intro p hp
    rcases List.mem_cons.mp hp with rfl | hp
    · exact .tail _ (.head _)
    rcases List.mem_cons.mp hp with rfl | hp
    · exact .head _
    · exact .tail _ (.tail _ hp)
  · intro p hp
    rcases List.mem_cons.mp hp with rfl | hp
    · exact l
    · exact hne p hp

/-- the pairs of held -/
def HInv (pl : Addr) (base : List (Addr × Obj)) (i : Nat) (ys : List Value) (nx : List (Addr × Obj)) : Prop :=
  ∃ (o' : Obj) (rest' : List (Addr × Obj)) (f : Nat → Int), nx = (pl, o') :: rest' ∧ PoolO o' ∧ (∀ p ∈ base, p ∈ rest') ∧ (∀ p ∈ rest', p.1 ≠ pl) ∧ ys.length = i ∧
    ∀ j, j < i → ∃ x t t' n', ys[j]? = some (.ref x) ∧ (x, ({ cls := .type "tuple", data := .seq #[.int (j : Nat) t, .int (f j) t'] n' } : Obj)) ∈ rest'

theorem HInv.push {D2 C D I pl : Addr} {oC oD oI o o' : Obj} {base rest' : List (Addr × Obj)} {f : Nat → Int} {ys : List Value} {i n tk : Nat} {v : Int} {t t' : Tok} {s₁ : Shared}
    (F : Fr h₀ L h' m) (N : News h₀ L h' ((D2, { cls := .type "tuple", data := .seq #[.int (i : Nat) t, .int v t'] n }) :: (C, oC) :: (D, oD) :: (I, oI) :: (pl, o') :: rest'))
    (P' : PoolO o') (a1 : ∀ p ∈ base, p ∈ rest') (a2 : ∀ p ∈ rest', p.1 ≠ pl) (a4 : ys.length = i)
    (a5 : ∀ j, j < i → ∃ x t t' n', ys[j]? = some (.ref x) ∧ (x, ({ cls := .type "tuple", data := .seq #[.int (j : Nat) t, .int (f j) t'] n' } : Obj)) ∈ rest')
    (hoff : ∀ p ∈ (pl, o) :: rest', p.1 ≠ I ∧ p.1 ≠ D ∧ p.1 ≠ C) (l2 : C < D2 ∧ D < D2 ∧ I < D2 ∧ pl < D2 ∧ AllLt D2 rest') :
    EltEnd h₀ L m (HInv pl base) C D I oC oD oI i ys s₁ (.ref D2) { s₁ with heap := h', toks := tk } := by
  refine ⟨h', tk, (pl, o') :: (D2, { cls := .type "tuple", data := .seq #[.int (i : Nat) t, .int v t'] n }) :: rest', rfl, F, kst_newsOf N ?_, ?_,
    o', (D2, { cls := .type "tuple", data := .seq #[.int (i : Nat) t, .int v t'] n }) :: rest', (fun j => if j = i then v else f j), rfl, P', fun p hp => .tail _ (a1 p hp), ?_, by simp [a4], ?_⟩
  · intro p hp
    simp only [List.mem_cons] at hp ⊢
    rcases hp with h | h | h | h | h | h
    · exact .inr (.inl h)
    · exact .inr (.inr (.inl h))
    · exact .inr (.inr (.inr (.inl h)))
    · exact .inr (.inr (.inr (.inr (.inl h))))
    · exact .inl h
    · exact .inr (.inr (.inr (.inr (.inr h))))
  · intro p hp
    rcases List.mem_cons.mp hp with rfl | hp
    · exact hoff (pl, o) (.head _)
    rcases List.mem_cons.mp hp with rfl | hp
    · exact ⟨Nat.ne_of_gt l2.2.2.1, Nat.ne_of_gt l2.2.1, Nat.ne_of_gt l2.1⟩
    · exact hoff p (.tail _ hp)
  · intro p hp
    rcases List.mem_cons.mp hp with rfl | hp
    · exact Nat.ne_of_gt l2.2.2.2.1
    · exact a2 p hp
  · intro j hj
    by_cases hlt : j < i
    · obtain ⟨z, t1, t2, n1, e, r⟩ := a5 j hlt
      refine ⟨z, t1, t2, n1, by rw [List.getElem?_append_left (by rw [a4]; exact hlt)]; exact e, .tail _ ?_⟩
      dsimp only
      rw [if_neg (Nat.ne_of_lt hlt)]
      exact r
    · have : j = i := by omega
      subst this
      refine ⟨D2, t, t', n, by rw [← a4]; simp, ?_⟩
      dsimp only
      rw [if_pos rfl]
      exact .head _
end

theorem HInv.zero {pl : Addr} {o : Obj} {base : List (Addr × Obj)} (P : PoolO o) (hne : ∀ p ∈ base, p.1 ≠ pl) : HInv pl base 0 [] ((pl, o) :: base) :=
  ⟨o, base, fun _ => 0, rfl, P, fun _ h => h, hne, rfl, fun j hj => absurd hj (Nat.not_lt_zero _)⟩

local macro_rules | `(tactic| walk_at "call ref") => `(tactic| refine Here.off ?_)
local macro_rules | `(tactic| walk_at "call ref") => `(tactic| (
  k_here
  (with_reducible show wpAny _ _ (call (Value.ref 345) _) _ _ _)
  (rename PoolO _ => hpo)
  k_dflt (refine' law_take_U ?cC ?cU ?cP ?cm ?_; (case cC => tb_start); (case cU => k_updF); (case cP => with_reducible assumption); (case cm => decide); k_whole
          intro d' t' o' h' tk' lo' hi' P' F' N'; (try dsimp only at N'); (try dsimp only); (try k_sweep); (try k_fold))))
local macro_rules | `(tactic| row_walkg) => `(tactic| (refine' code_def ?k1 ?k2 ?k3 ?k4 ?k5 ?kA ?kF ?kK ?k6 ?k7 ?k8 ?k9 ?kB ?_ ?c2 ?c3 ?c4 ?c5; (case kA => exact rfl); (case kF => exact rfl); (case kK => first | exact rfl | assumption); (case k1 => k_asm); (case k2 => k_asm); (case k3 => k_asm); (case k4 => k_asm); (case k5 => k_asm); (case k6 => k_is); (case k7 => k_is); (case k8 => ktr_room); (case k9 => first | exact BindsTo.of_eq rfl | exact binds_K (by k_in) rfl (by k_is) rfl rfl rfl); (case c5 => decide); (case kB => exact locs rfl); (case c2 => exact rfl); (case c3 => exact rfl); (case c4 => exact rfl); k_whole; intro g' L' h' FG' F' N' B' X' T'; (try dsimp only); (try k_fold)))
local macro_rules | `(tactic| walk_at "call ref") => `(tactic| (k_here; k_dflt (refine' call_cls ?k1 ?k2 ?k3 ?k4 ?k5 ?k6 ?_; (case k1 => k_asm); (case k2 => k_asm); (case k3 => k_asm); (case k4 => k_is); (case k5 => k_is); (case k6 => k_is); k_whole; intro x' d' h' F' N' l1 l2; (try k_lt l1); (try k_lt2 l2); (try k_sweep); row_walkg)))
local macro_rules | `(tactic| walk_at "exec Assign cons ListComp") => `(tactic| (k_here; (rename PoolO _ => hpo); (rename Fr _ _ _ _ => lF'); k_dflt (refine' Assign_ListComp_effF lF' ?hsw ?hh ?hclos ?hcell ?hkind ?hnames ?hx ?hy ?hp ?hs ?_; (case hsw => with_unfolding_all rfl); (case hh => with_unfolding_all rfl); (case hclos => with_unfolding_all rfl); (case hcell => decide); (case hkind => with_unfolding_all rfl); (case hnames => decide); (case hx => with_unfolding_all rfl); (case hy => with_unfolding_all rfl); (case hp => with_unfolding_all rfl); (case hs => (intro _; with_unfolding_all rfl)))))
local macro_rules | `(tactic| walk_at "eval ListComp") => `(tactic| (k_here; (rename PoolO _ => hpo); (rename Fr _ _ _ _ => lF'); k_dflt (refine' ListComp_effF lF' ?hh ?hclos ?hcell ?hkind ?hnames ?hx ?hs ?_; (case hh => with_unfolding_all rfl); (case hclos => with_unfolding_all rfl); (case hcell => decide); (case hkind => with_unfolding_all rfl); (case hnames => decide); (case hx => with_unfolding_all rfl); (case hs => (intro _; with_unfolding_all rfl)))))
local macro_rules | `(tactic| walk_at "call type:range") => `(tactic| (k_here; (rename Fr _ _ _ _ => rF'); (rename News _ _ _ _ => rN'); (with_unfolding_all refine range1_rows rF' rN' ?_); clear rF' rN'; intro h' tk' t1' u1' v1' R' F' N' _))
local macro_rules | `(tactic| walk_at "eval Name") => `(tactic| (k_here; k_dflt (refine' ldPool ?k1 ?k2 ?k3 ?k4 ?_ ?k5 ?k6 ?k7; (case k2 => exact rfl); (case k5 => exact rfl); (case k6 => exact rfl); (case k7 => decide); (case k1 => k_asm); (case k3 => row_head_pins); (case k4 => with_reducible assumption); k_whole)))
local macro_rules | `(tactic| walk_at "subscriptTail Subscript Name Name Constant ref int") => `(tactic| (
  k_here
  (with_reducible rename ScAt _ _ _ _ _ _ => hsc)
  (with_reducible show wpAny _ _ (subscriptTail (PySem.Expr.Subscript (PySem.Expr.Name (Str.ofString "rows") _) _ _) _ (Value.ref _) (Value.int 0 _)) _ _ _)
  k_dflt (refine' item_t20 ?k1 ?k2 ?_ ?k6; (case k1 => k_asm); (case k2 => row_head_pins); (case k6 => with_unfolding_all rfl); k_whole)))
local macro_rules | `(tactic| walk_at "subscriptTail Subscript Name Constant Constant ref int") => `(tactic| (
  k_here
  (with_reducible rename ScAt _ _ _ _ _ _ => hsc)
  (with_reducible show wpAny _ _ (subscriptTail (PySem.Expr.Subscript (PySem.Expr.Name (Str.ofString "inside") _) _ _) _ (Value.ref _) (Value.int 1 _)) _ _ _)
  k_dflt (refine' item_t21 ?k1 ?k2 ?_ ?k6; (case k1 => k_asm); (case k2 => row_head_pins); (case k6 => with_unfolding_all rfl); k_whole)))
local macro_rules | `(tactic| walk_at "subscriptTail Name Constant ref int") => `(tactic| (
  k_here
  (with_reducible rename ScAt _ _ _ _ _ _ => hsc)
  (with_reducible show wpAny _ _ (subscriptTail (PySem.Expr.Name (Str.ofString "inside") _) _ (Value.ref _) (Value.int 0 _)) _ _ _)
  k_dflt (refine' item_l1 ?k1 ?k2 ?_ ?k6; (case k1 => k_asm); (case k2 => row_head_pins); (case k6 => with_unfolding_all rfl); k_whole)))
local macro_rules | `(tactic| walk_at "subscriptTail Subscript Name Constant Constant ref int") => `(tactic| (
  k_here
  (with_reducible rename ScAt _ _ _ _ _ _ => hsc)
  (with_reducible show wpAny _ _ (subscriptTail (PySem.Expr.Subscript (PySem.Expr.Name (Str.ofString "other") _) _ _) _ (Value.ref _) (Value.int 0 _)) _ _ _)
  k_dflt (refine' item_l1 ?k1 ?k2 ?_ ?k6; (case k1 => k_asm); (case k2 => row_head_pins); (case k6 => with_unfolding_all rfl); k_whole)))
local macro_rules | `(tactic| walk_at "subscriptTail Name Name ref int") => `(tactic| (
  k_here
  (with_reducible rename ScAt _ _ _ _ _ _ => hsc)
  (with_reducible show wpAny _ _ (subscriptTail (PySem.Expr.Name (Str.ofString "rows") _) _ (Value.ref _) (Value.int _ _)) _ _ _)
  k_dflt (refine' item_rows ?k1 ?k2 ?k3 ?k4 ?k5 ?_ ?k6; (case k1 => k_asm); (case k2 => first | with_reducible assumption | exact RowsAt.mono (by with_reducible assumption) (by intro p hp; simp only [List.mem_cons, hp, or_true, true_or])); (case k3 => omega); (case k4 => omega); (case k5 => omega); (case k6 => with_unfolding_all rfl); k_whole
          intro x' t' t'' n' m'; (try dsimp only); (try k_fold))))
local macro_rules | `(tactic| walk_at "subscriptTail") => `(tactic| (
  k_here
  (with_reducible show wpAny _ _ (subscriptTail (PySem.Expr.Tuple _ _ _) _ (Value.ref _) (Value.int _ _)) _ _ _)
  k_dflt (refine' item_strs_any ?k1 ?k2 ?k3 ?k4 ?k5 ?k8 ?_ ?k6; (case k1 => k_asm); (case k2 => row_head_pins); (case k3 => (repeat' (first | exact List.forall_mem_nil _ | refine List.forall_mem_cons.mpr ⟨⟨_, _, rfl⟩, ?_⟩))); (case k4 => omega); (case k5 => ((try simp only [List.length_cons, List.length_nil]); omega)); (case k8 => ((try simp only [List.length_cons, List.length_nil]); omega)); (case k6 => with_unfolding_all rfl); k_whole
          intro ks' kt'; (try dsimp only); (try k_fold))))
local macro_rules | `(tactic| walk_at "eval Name") => `(tactic| (k_here; k_dflt (refine' ldVarK ?k1 ?k2 ?_ ?k5 ?k6 ?k7; (case k5 => exact rfl); (case k6 => exact rfl); (case k7 => decide); (case k1 => with_reducible assumption); (case k2 => with_reducible assumption); k_whole)))
local macro_rules | `(tactic| walk_at "call type:dict") => `(tactic| refine Here.off ?_)
local macro_rules | `(tactic| walk_at "subscriptTail") => `(tactic| (
  k_here
  (with_reducible show wpAny _ _ (subscriptTail (PySem.Expr.Tuple _ _ _) _ (Value.ref _) (Value.int _ _)) _ _ _)
  k_dflt (refine' item_flag ?k1 ?k2 ?k3 ?k4 ?_ ?k6; (case k1 => k_asm); (case k2 => row_head_pins); (case k3 => omega); (case k4 => omega); (case k6 => with_unfolding_all rfl); k_whole
          intro ks' kt' hfl'; (try dsimp only); (try k_fold))))
local macro_rules | `(tactic| walk_at "call builtin:len") => `(tactic| (
  k_here
  (with_reducible show wpAny _ _ (call (Value.builtin _) [Value.ref _]) _ _ _)
  k_dflt (refine' len_rows ?k1 ?k2 ?k3 ?_; (case k1 => k_asm); (case k2 => first | with_reducible assumption | exact RowsAt.mono (by with_reducible assumption) (by intro p hp; simp only [List.mem_cons, hp, or_true, true_or])); (case k3 => omega); k_whole)))
local macro_rules | `(tactic| walk_at "subscriptTail Name Slice ref ref") => `(tactic| (k_here; (rename PoolO _ => hpo); (with_reducible show wpAny _ _ (subscriptTail _ (PySem.Expr.Slice _ _ _ _) (Value.ref _) (Value.ref _)) _ _ _); k_dflt (refine' krv_lit ?kF ?kN ?kl ?kp ?ke ?_ ?ks ?kt ?kz; (case kF => k_asm); (case kN => k_asm); (case kl => exact News.isList (by k_asm) (by row_head_pins)); (case kp => kmk_part); (case ke => exact rfl); (case ks => with_unfolding_all rfl); (case kt => kmk_pure); (case kz => (rw [PySem.sizeLine_eq]; omega))); intro D' h' F' N' l1; (try k_lt l1); (try k_sweep)))
local macro_rules | `(tactic| walk_at "exec For Name Call cons nil") => `(tactic| (k_here; (rename Fr _ _ _ _ => lF'); (with_unfolding_all refine' For_invVF lF' ?k1 ?k2 ?_; (case k1 => exact rfl); (case k2 => exact rfl); k_whole)))
local macro_rules | `(tactic| walk_at "pyIter ref") => `(tactic| ((rename PoolO _ => hpo); refine Here.off ?_))
local macro_rules | `(tactic| walk_at "GEnd") => `(tactic| refine Here.off ?_)
local macro_rules | `(tactic| walk_at "GPost") => `(tactic| dsimp only [GPost])
local macro_rules | `(tactic| row_tame_look) => `(tactic| first
  | with_reducible assumption
  | exact ScAt.mono (by with_reducible assumption) (by intro p hp; simp only [List.mem_cons, hp, or_true, true_or])
  | exact TestsAt.mono (by with_reducible assumption) (by intro p hp; simp only [List.mem_cons, hp, or_true, true_or])
  | exact TestAt.mono (by with_reducible assumption) (by intro p hp; simp only [List.mem_cons, hp, or_true, true_or])
  | exact .inr ⟨rfl, _, by row_head_pins⟩)
local macro_rules | `(tactic| row_report) => `(tactic| (
  refine Here.on ?_
  k_here
  (with_reducible show wpAny _ _ (call (Value.ref 155) _) _ _ _)
  refine' match_rule_spec ?cC ?ch ?ctt ?cb ?ca ?ci ?ct ?cf ?c0 ?c1 ?c2 ?r0 ?r1
  (case cC => tb_start); (case ch => row_tame_look); (case ctt => row_head_pins); (case cb => row_tame_look); (case ca => row_tame_look); (case ci => row_head_pins); (case ct => row_tame_look); (case cf => with_reducible assumption); (case c0 => omega); (case c1 => omega); (case c2 => omega)
  (case' r0 => k_whole; intro h' tk' er' F' N'; (try dsimp only); (try k_fold))
  (case' r1 => k_whole; intro d' pl' t' t1' t2' n' n'' b' e' h' tk' p1' p2' p3' p4' p5' l1 l2 l3 F' N'; (try dsimp only); (try k_lt l1); (try k_lt l2); (try k_lt2 l3); (try k_fold))))
local macro_rules | `(tactic| walk_at "subscriptTail Name Constant ref int") => `(tactic| (
  k_here
  (first | (with_reducible show wpAny _ _ (subscriptTail (PySem.Expr.Name (Str.ofString "one") _) _ (Value.ref _) (Value.int 2 _)) _ _ _) | (with_reducible show wpAny _ _ (subscriptTail (PySem.Expr.Name (Str.ofString "other") _) _ (Value.ref _) (Value.int 2 _)) _ _ _))
  k_dflt (refine' item_tri2 ?k1 ?k2 ?_ ?k6; (case k1 => k_asm); (case k2 => row_head_pins); (case k6 => with_unfolding_all rfl); k_whole)))
local macro_rules | `(tactic| walk_at "subscriptTail Name Constant ref int") => `(tactic| (
  k_here
  (first | (with_reducible show wpAny _ _ (subscriptTail (PySem.Expr.Name (Str.ofString "one") _) _ (Value.ref _) (Value.int 1 _)) _ _ _) | (with_reducible show wpAny _ _ (subscriptTail (PySem.Expr.Name (Str.ofString "other") _) _ (Value.ref _) (Value.int 1 _)) _ _ _))
  k_dflt (refine' item_tri1 ?k1 ?k2 ?_ ?k6; (case k1 => k_asm); (case k2 => row_head_pins); (case k6 => with_unfolding_all rfl); k_whole)))
local macro_rules | `(tactic| walk_at "subscriptTail Name Constant ref int") => `(tactic| (
  k_here
  (first | (with_reducible show wpAny _ _ (subscriptTail (PySem.Expr.Name (Str.ofString "one") _) _ (Value.ref _) (Value.int 0 _)) _ _ _) | (with_reducible show wpAny _ _ (subscriptTail (PySem.Expr.Name (Str.ofString "other") _) _ (Value.ref _) (Value.int 0 _)) _ _ _))
  k_dflt (refine' item_tri0 ?k1 ?k2 ?_ ?k6; (case k1 => k_asm); (case k2 => row_head_pins); (case k6 => with_unfolding_all rfl); k_whole)))
local macro_rules | `(tactic| walk_at "compareOp NotEq ref ref") => `(tactic| refine Here.off ?_)
local macro_rules | `(tactic| walk_at "eval IfExp") => `(tactic| (
  (fail_if_success (with_reducible show wpAny _ _ _ (DictR _ _ _ _ _ _ _) _ _)); (fail_if_success (with_reducible rename ScAt _ _ _ _ _ _ => hsc)); refine Here.off ?_))

theorem walk : Part Mine.hd := (by
  delta Part
  k_go0
  (all_goals try k_fold)
  k_steps
  refine Here.on ?_
  rename News _ _ _ ((_, LCg.lst _) :: _) => lN0
  rename IntsAre _ (List.map _ _) => lI0
  rename _ ≠ _ ∧ _ ≠ _ => lne
  rename Obj.data _ = Data.cell (some (Value.ref _)) => ldat
  obtain ⟨pl, po, rest, N0, hne0, hP0, oc, hcell, hcd⟩ := pack_pool lN0 ldat lI0 lne (by rw [List.length_map, List.length_take]; omega)
    (fun x hx => by obtain ⟨k, _, rfl⟩ := List.mem_map.1 hx; exact ⟨fmod_lo _ (by decide), fmod_hi _ (by decide)⟩)
  clear lN0 ldat lI0 lne
  rename Fr _ _ _ _ => lF0
  refine join_dict (pl := pl) (rest := rest) lF0 ?_ ?_
  · k_steps
    all_goals refine dictR_intro (by assumption) (by assumption) (by assumption) (by assumption) (by assumption) (by assumption) (by assumption) (by assumption) ?_
    · exact fOf_1 _ _ _ _
    · exact fOf_2 _ _
  clear lF0 N0 hP0
  intro dd rest1 h1 tk1 po1 fc F1 N1 P1 n1 i1 H1
  have hcell1 := i1 _ hcell
  clear hne0 i1 hcell
  k_steps
  rename IsRange _ _ _ _ _ _ _ _ => hR
  rename News _ _ _ (_ :: _ :: (pl, _) :: rest1) => lN2
  rename Fr _ _ _ _ => lF2
  rename PoolO _ => hP2
  rename (0 : Int) ≤ _ => b1
  rename (_ : Int) < 8 => b2
  rename (_ : Addr) < _ ∧ AllLt _ rest1 => q1
  rename (_ : Nat) < _ => q2
  obtain ⟨rest2, N2, n2, i2, C2⟩ := pack_cls lN2 n1 q1 q2 H1
  have hcell2 := i2 _ hcell1
  clear lN2 q1 q2 H1 hcell1 i2 n1
  refine' ⟨_, _, _, _, _, _, _, RInv pl rest2, rfl, hR, ?ra, ?rb, lF2, N2, ?rc, ?rd, ?re⟩
  case ra => omega
  case rb => omega
  case rc => exact ⟨_, rest2, [], rfl, hP2, fun _ h => h, n2, rfl, rfl, fun j hj => absurd hj (Nat.not_lt_zero _)⟩
  case rd =>
    rintro i t ys k nx C D I oI oC mC h tk E' hi hyl ⟨o3, rest3, rows3, rfl, P3, a1, a2, a3, a4, a5⟩ hoff hID hDC F3 N3 hns hmC
    have e1 := Nat.lt_or_gt_of_ne (hoff _ (.head _)).1
    have e2 := Nat.lt_or_gt_of_ne (hoff _ (.head _)).2.1
    have e3 := Nat.lt_or_gt_of_ne (hoff _ (.head _)).2.2
    have f1 : ∀ p ∈ rest3, p.1 ≠ C := fun p hp => (hoff p (.tail _ hp)).2.2
    have f2 : ∀ p ∈ rest3, p.1 ≠ D := fun p hp => (hoff p (.tail _ hp)).2.1
    have f3 : ∀ p ∈ rest3, p.1 ≠ I := fun p hp => (hoff p (.tail _ hp)).1
    have hcell3 := a1 _ hcell2
    dsimp only at e1 e2 e3
    (try k_fold)
    k_steps
    exact RInv.push (o := o3) (by assumption) (by assumption) (by assumption) a1 a2 a3 a4 a5 hoff (by assumption) (by assumption)
  case re =>
    rintro D h' tk ys k nx ⟨o4, rest4, rows, rfl, P4, c1, c2, c3, c4, c5⟩ hnD hDL hD0 - - h4 tk4 F4 N4
    obtain ⟨rest5, N5, n5, i5, r5⟩ := pull1 N4 c2 (Ne.symm (hnD _ (.head _)))
    have R5 : RowsAt rest5 D rows := ⟨_, _, r5, by rw [List.size_toArray, c3, c4], fun j hj => by
      obtain ⟨z, t1, t2, n1, e, q⟩ := c5 j (by rw [← c3]; exact hj)
      exact ⟨z, t1, t2, n1, by simpa using e, i5 _ q⟩⟩
    have hlen1 : rows.length ≤ 8 := by omega
    have hlen2 : 1 ≤ rows.length := by omega
    have hcell5 := i5 _ (c1 _ hcell2)
    have C5 := (C2.mono c1).mono i5
    clear N4 hR lF2 N2 hP2 hcell2 C2 n2 r5 i5 c5 c1 c2 c3 c4 hnD hDL hD0
    (try k_fold)
    k_steps
    clear b1 b2
    rename IsRange _ _ _ _ _ _ _ _ => hR
    rename News _ _ _ _ => lN2
    rename Fr _ _ _ _ => lF2
    rename PoolO _ => hP2
    rename (0 : Int) ≤ _ => b1
    rename (_ : Int) < 3 => b2
    refine' ⟨_, _, _, _, _, _, _, HInv pl rest5, rfl, hR, ?ra, ?rb, lF2, lN2, ?rc, ?rd, ?re⟩
    case ra => omega
    case rb => omega
    case rc => exact HInv.zero hP2 n5
    case rd =>
      rintro i t ys k nx C D I oI oC mC h tk E' hi hyl ⟨o3, rest3, f3, rfl, P3, a1, a2, a4, a5⟩ hoff hID hDC F3 N3 hns hmC
      have e1 := Nat.lt_or_gt_of_ne (hoff _ (.head _)).1
      have e2 := Nat.lt_or_gt_of_ne (hoff _ (.head _)).2.1
      have e3 := Nat.lt_or_gt_of_ne (hoff _ (.head _)).2.2
      have f1 : ∀ p ∈ rest3, p.1 ≠ C := fun p hp => (hoff p (.tail _ hp)).2.2
      have f2 : ∀ p ∈ rest3, p.1 ≠ D := fun p hp => (hoff p (.tail _ hp)).2.1
      have f4 : ∀ p ∈ rest3, p.1 ≠ I := fun p hp => (hoff p (.tail _ hp)).1
      have hcell6 := a1 _ hcell5
      dsimp only at e1 e2 e3
      (try k_fold)
      k_steps
      exact HInv.push (o := o3) (by assumption) (by assumption) (by assumption) a1 a2 a4 a5 hoff (by assumption)
    case re =>
      rintro D2 h' tk ys k nx ⟨o6, rest6, fh, rfl, P6, c1, c2, c4, c5⟩ hnD hDL hD0 - - h6 tk6 F6 N6
      obtain ⟨rest7, N7, n7, i7, r7⟩ := pull1 N6 c2 (Ne.symm (hnD _ (.head _)))
      have hcell7 := i7 _ (c1 _ hcell5)
      have C7 := (C5.mono c1).mono i7
      have R7 : RowsAt rest7 D rows := (R5.mono c1).mono i7
      have hys : ys.length < 1000 := by omega
      have T7 : ∀ i, i < (List.toArray ys).size → ∃ x t t' n', (List.toArray ys)[i]? = some (.ref x) ∧ (x, ({ cls := .type "tuple", data := .seq #[.int (i : Nat) t, .int (fh i) t'] n' } : Obj)) ∈ (pl, o6) :: rest7 := fun i hi => by
        obtain ⟨z, t1, t2, n1, e, q⟩ := c5 i (by rw [← c4]; simpa using hi)
        exact ⟨z, t1, t2, n1, by simpa using e, .tail _ (i7 _ q)⟩
      clear N6 hR lF2 lN2 hP2 hcell5 C5 n5 c5 c1 c2 hnD hDL hD0 R5 i7
      (try k_fold)
      k_steps
      refine Here.on ?_
      refine call_dict_pairs (by rfl) F6 N7 (modules_low (Top.nolimit (by k_asm))) (.tail _ r7) (by simpa using hys) T7 ?_
      intro d8 h8 tk8 o8 kvs8 D8 F8 N8 l8 lo8 hd8 hf8 hl8
      obtain ⟨rest9, N9, n9, i9, r9⟩ := pull1 N8 n7 (Nat.ne_of_gt (l8 _ (.head _)))
      have H9 : HeldAt _ rest9 d8 (fUpTo fh (List.toArray ys).size) := ⟨o8, kvs8, D8, r9, lo8, hd8, hf8, hl8⟩
      have C9 := C7.mono i9
      have R9 := R7.mono i9
      have hcell9 := i9 _ hcell7
      clear N8 N7 F6 T7 i9 r9 lo8 hd8 hf8 hl8 l8 C7 R7 hcell7 r7 n7
      (try dsimp only)
      (try k_fold)
      k_steps
      refine Here.on ?_
      rename News _ _ _ (_ :: (pl, _) :: rest9) => lN9
      rename (_ : Addr) < _ ∧ AllLt _ rest9 => q9
      rename _ = (0 : Int) ∨ _ => hflag
      obtain ⟨restA, NA, nA, iA, -⟩ := pull1 lN9 n9 (Nat.ne_of_gt q9.1)
      have CA := C9.mono iA
      have RA := R9.mono iA
      have HA := H9.mono iA
      have hcellA := iA _ hcell9
      clear lN9 q9 iA C9 R9 H9 hcell9 n9
      refine' law_tests_spec (rest := restA) ?cC nA ?cP CA ?_
      case cC => tb_start
      case cP => with_reducible assumption
      intro bl bs oB restB hB tkB PB iB nB TB FB NB
      have CB := CA.mono iB
      have RB := RA.mono iB
      have HB := HA.mono iB
      have hcellB := iB _ hcellA
      clear NA CA RA HA hcellA nA iB
      (try dsimp only)
      (try k_fold)
      k_steps
      refine Here.on ?_
      refine' law_tests_spec (rest := restB) ?cC nB PB CB ?_
      case cC => tb_start
      intro al as oD restD hD tkD PD iD nD TD FD ND
      have CD := CB.mono iD
      have RD := RB.mono iD
      have HD := HB.mono iD
      have TBD := TB.mono iD
      have hcellD := iD _ hcellB
      clear NB CB RB HB TB hcellB nB iD PB
      (try dsimp only)
      (try k_fold)
      k_steps
      refine Here.on ?_
      rename News _ _ _ ((_, listOf _ _) :: (_, _) :: _ :: _ :: restD) => lN
      obtain ⟨led, NL, iL, mI, mX⟩ := pack4 lN
      have CL := CD.mono iL
      have RL := RD.mono iL
      have HL := HD.mono iL
      have AL := TD.mono iL
      have BL := TBD.mono iL
      clear lN iL CD RD HD TD TBD hcellD
      refine' law_scene_spec ?cC RL hlen1 HL ?_
      case cC => tb_start
      intro sc ledS hS tkS iS SS FS NS
      have CS := CL.mono iS
      have RS := RL.mono iS
      have HS := HL.mono iS
      have AS := AL.mono iS
      have BS := BL.mono iS
      have mI := iS _ mI
      have mX := iS _ mX
      clear NL CL RL HL AL BL iS
      obtain ⟨itsR, nR, mR, sR, tR⟩ := id RS
      (try dsimp only)
      (try k_fold)
      k_steps
      refine Here.on ?_
      rename News _ _ _ ((_, listOf (List.toArray (List.reverse _)) _) :: ledS) => lN
      obtain ⟨ledT, NT, iT, RT⟩ := pack_rev lN sR tR
      have hrl : rows.reverse.length = rows.length := List.length_reverse
      refine' law_scene_spec ?cC RT (by omega) (HS.mono iT) ?_
      case cC => tb_start
      intro sct ledU hU tkU iU ST FU NU
      have SU := (SS.mono iT).mono iU
      have RU := (RS.mono iT).mono iU
      have AU := (AS.mono iT).mono iU
      have BU := (BS.mono iT).mono iU
      have mI := iU _ (iT _ mI)
      have mX := iU _ (iT _ mX)
      clear lN NT RT iT iU SS RS AS BS HS CS mR tR sR
      (try dsimp only)
      (try k_fold)
      k_steps
      refine Here.on ?_
      rename IsRange _ _ _ _ _ _ _ _ => hR2
      rename News _ _ _ (_ :: ledU) => lN'
      (rename Fr _ _ _ _ => lF')
      refine' iterG_rangeD (σ := Unit) (by rfl) hR2 (by omega) lF' (kst_newsOf lN' (l' := ledU) fun p hp => .tail _ hp) (fun c => []) [Str.ofString "one", Str.ofString "other", Str.ofString "lone"]
        (fun i c nx => nx = ledU) () ?kk ?kp ?_ ?_
      case kk => kst_all
      case kp => rfl
      · clear lF' lN'
        rintro - i ti u nx I oI h tk hi rfl hI F1 N1
        obtain ⟨ledV, NV, iV, mV⟩ := pack_one N1
        have SV := SU.mono iV
        have ST := ST.mono iV
        have RV := RU.mono iV
        have AV := AU.mono iV
        have BV := BU.mono iV
        have mI := iV _ mI
        have mX := iV _ mX
        have XV := testOf SV mX
        clear N1
        (try k_fold)
        have hi0 : (0 : Int) ≤ (i : Int) := Int.natCast_nonneg _
        have hB : ∀ ig, scanAll rows.reverse ig 1 bs ((rows.length : Int) - 1 - (i : Int)) = mir rows.length (scanAll rows ig (-1) bs (i : Int)) := fun ig => by
          have q := scanAll_rev (rows := rows) (ig := ig) (step := -1) bs (i : Int) hi0 hi
          rw [Int.neg_neg] at q; exact q
        have hE : ∀ ig, scanAll rows.reverse ig (-1) as ((rows.length : Int) - 1 - (i : Int)) = mir rows.length (scanAll rows ig 1 as (i : Int)) := fun ig =>
          scanAll_rev (rows := rows) (ig := ig) (step := 1) as (i : Int) hi0 hi
        have hg : getg rows.reverse ((rows.length : Int) - 1 - (i : Int)) = getg rows (i : Int) := by unfold getg; rw [getD_rev hi0 hi]
        have rB : ∀ ig, scanAll rows ig (-1) bs (i : Int) = -1 ∨ (0 ≤ scanAll rows ig (-1) bs (i : Int) ∧ scanAll rows ig (-1) bs (i : Int) < rows.length) := fun ig => scanAll_range bs _ hi0 hi
        have rE : ∀ ig, scanAll rows ig 1 as (i : Int) = -1 ∨ (0 ≤ scanAll rows ig 1 as (i : Int) ∧ scanAll rows ig 1 as (i : Int) < rows.length) := fun ig => scanAll_range as _ hi0 hi
        k_steps
        row_report
        all_goals k_steps
        all_goals row_report
        · k_steps
          refine Here.on ?_
          have q1 := mirB hB (by with_reducible assumption) (by with_reducible assumption) (by with_reducible assumption)
          have q2 := mirE hE (by with_reducible assumption) (by with_reducible assumption) (by with_reducible assumption)
          refine' ne_trip ?n0 ?n1 ?n2 ?n3 ?n4 ?n5 ?n6 ?n7 ?n8 ?_
          case n0 => k_asm
          case n1 => row_head_pins
          case n2 => row_head_pins
          case n3 => row_head_pins
          case n4 => row_head_pins
          case n5 => ke_room
          case n6 => omega
          case n7 => with_reducible assumption
          case n8 => with_reducible assumption
          (try dsimp only)
          (try k_fold)
          k_steps
          row_report
          · rename decide _ = true => pd
            have pe := loneT pd
            k_steps
            refine Here.on ?_
            have q3 := loneB (by with_reducible assumption)
            have q4 := loneE (by with_reducible assumption)
            refine' ne_trip ?n0 ?n1 ?n2 ?n3 ?n4 ?n5 ?n6 ?n7 ?n8 ?_
            case n0 => k_asm
            case n1 => row_head_pins
            case n2 => row_head_pins
            case n3 => row_head_pins
            case n4 => row_head_pins
            case n5 => ke_room
            case n6 => omega
            case n7 => first | with_reducible assumption | omega
            case n8 => first | with_reducible assumption | omega
            (try dsimp only)
            (try k_fold)
            k_steps
            rename Fr _ _ _ _ => lF9
            rename News _ _ _ _ => lN9
            exact Here.on (gEnd () nx lF9 lN9 (by intro q hq; rw [List.mem_singleton.mp hq]; first | exact mV | simp only [List.mem_cons, mV, or_true])
              (by intro q hq; have hq2 := iV q hq; first | exact hq2 | simp only [List.mem_cons, hq2, or_true]) hI (by kst_all)
              (by intro z z1 z2 z3; (try dsimp only at z1); have z5 : ¬ z = Str.ofString "one" ∧ ¬ z = Str.ofString "other" ∧ ¬ z = Str.ofString "lone" := (by simpa using z3); simp [kstB, z1, z5]) rfl)
          · have pn := loneN hi0 (by with_reducible assumption)
            rename decide (_ = getg rows _) = true => pd
            exact absurd (of_decide_eq_true pd) pn
        · exact (absB hB hE hg rB rE (by with_reducible assumption) (by with_reducible assumption) (by with_reducible assumption) (by with_reducible assumption) (by with_reducible assumption) (by with_reducible assumption)).elim
        · exact (absC hB hE hg (by with_reducible assumption) (by with_reducible assumption) (by with_reducible assumption) (by with_reducible assumption) (by with_reducible assumption) (by with_reducible assumption)).elim
        · k_steps
          row_report
          · rename decide _ = true => pd
            have pe := loneT pd
            k_steps
            refine Here.on ?_
            have q3 := loneB (by with_reducible assumption)
            have q4 := loneE (by with_reducible assumption)
            refine' ne_trip ?n0 ?n1 ?n2 ?n3 ?n4 ?n5 ?n6 ?n7 ?n8 ?_
            case n0 => k_asm
            case n1 => row_head_pins
            case n2 => row_head_pins
            case n3 => row_head_pins
            case n4 => row_head_pins
            case n5 => ke_room
            case n6 => omega
            case n7 => first | with_reducible assumption | omega
            case n8 => first | with_reducible assumption | omega
            (try dsimp only)
            (try k_fold)
            k_steps
            rename Fr _ _ _ _ => lF9
            rename News _ _ _ _ => lN9
            exact Here.on (gEnd () nx lF9 lN9 (by intro q hq; rw [List.mem_singleton.mp hq]; first | exact mV | simp only [List.mem_cons, mV, or_true])
              (by intro q hq; have hq2 := iV q hq; first | exact hq2 | simp only [List.mem_cons, hq2, or_true]) hI (by kst_all)
              (by intro z z1 z2 z3; (try dsimp only at z1); have z5 : ¬ z = Str.ofString "one" ∧ ¬ z = Str.ofString "other" ∧ ¬ z = Str.ofString "lone" := (by simpa using z3); simp [kstB, z1, z5]) rfl)
          · have pe := loneF hi0 (by with_reducible assumption)
            k_steps
            rename Fr _ _ _ _ => lF9
            rename News _ _ _ _ => lN9
            exact Here.on (gEnd () nx lF9 lN9 (by intro q hq; rw [List.mem_singleton.mp hq]; first | exact mV | simp only [List.mem_cons, mV, or_true])
              (by intro q hq; have hq2 := iV q hq; first | exact hq2 | simp only [List.mem_cons, hq2, or_true]) hI (by kst_all)
              (by intro z z1 z2 z3; (try dsimp only at z1); have z5 : ¬ z = Str.ofString "one" ∧ ¬ z = Str.ofString "other" ∧ ¬ z = Str.ofString "lone" := (by simpa using z3); simp [kstB, z1, z5]) rfl)
      · clear lF' lN'
        rintro - u nx h tk rfl F1 N1
        (try k_fold)
        k_steps)
end Mine
theorem Mine.anew_L1 : True := by
  w_top off
  first | (walk1; done) | trivial

open PySem PySem.W PyProof.Rows
set_option Elab.async true
set_option maxRecDepth 100000
set_option maxHeartbeats 0
namespace Mine
theorem whole.tw10000958634945066235 : True := trivial
theorem whole.tw10002100669626812175 : True := trivial
theorem whole.tw10006528559891928882 : True := trivial
theorem whole.tw10007520593648235073 : True := trivial
theorem whole.tw10025635815308576066 : True := trivial
theorem whole.tw10118140284582671090 : True := trivial
theorem whole.tw10141848381137687255 : True := trivial
theorem whole.tw10144505478992762587 : True := trivial
theorem whole.tw10178181129370835086 : True := trivial
theorem whole.tw1021466310418864216 : True := trivial
theorem whole.tw10219327507634694686 : True := trivial
theorem whole.tw1025460894849932998 : True := trivial
theorem whole.tw10301362462094837657 : True := trivial
theorem whole.tw10332575325313852403 : True := trivial
theorem whole.tw10335108021726791369 : True := trivial
theorem whole.tw10339747121181971505 : True := trivial
theorem whole.tw10344827342348678470 : True := trivial
theorem whole.tw10354518954362131899 : True := trivial
theorem whole.tw10379991877525085312 : True := trivial
theorem whole.tw10401040496497917961 : True := trivial
theorem whole.tw10438997657263567297 : True := trivial
theorem whole.tw10461253832287612282 : True := trivial
theorem whole.tw10467399731503315703 : True := trivial
theorem whole.tw10472183733418339316 : True := trivial
theorem whole.tw10482691264569365282 : True := trivial
theorem whole.tw10488504414272976643 : True := trivial
theorem whole.tw10499325594661192776 : True := trivial
theorem whole.tw10590843552420965350 : True := trivial
theorem whole.tw10600204908392656549 : True := trivial
theorem whole.tw10602399703277881627 : True := trivial
theorem whole.tw10692405288018296569 : True := trivial
theorem whole.tw1072497446573119103 : True := trivial
theorem whole.tw10832908153356258463 : True := trivial
theorem whole.tw10838650209671834137 : True := trivial
theorem whole.tw10887019763833697050 : True := trivial
theorem whole.tw10967300191404684569 : True := trivial
theorem whole.tw11018331769982298155 : True := trivial
theorem whole.tw11062147128104955651 : True := trivial
theorem whole.tw11116944545036436439 : True := trivial
theorem whole.tw11124209341801176217 : True := trivial
theorem whole.tw1114806542021703131 : True := trivial
theorem whole.tw1126771021984645910 : True := trivial
theorem whole.tw11314419770842972982 : True := trivial
theorem whole.tw11357175057958205107 : True := trivial
theorem whole.tw113900542113845248 : True := trivial
theorem whole.tw11401351377558187561 : True := trivial
theorem whole.tw11407776976990688227 : True := trivial
theorem whole.tw11409993775148365219 : True := trivial
theorem whole.tw11640952304293255183 : True := trivial
theorem whole.tw11678933692714762019 : True := trivial
theorem whole.tw11690859581915506653 : True := trivial
theorem whole.tw11726033629596993756 : True := trivial
theorem whole.tw11792362355297244138 : True := trivial
theorem whole.tw11803923868844527063 : True := trivial
theorem whole.tw11815051133581886887 : True := trivial
theorem whole.tw1182916100746360932 : True := trivial
theorem whole.tw11836910150536664915 : True := trivial
theorem whole.tw11841974853317911985 : True := trivial
theorem whole.tw11850914282074322712 : True := trivial
theorem whole.tw11876454138822706389 : True := trivial
theorem whole.tw11952309323241053379 : True := trivial
theorem whole.tw11966515284280811977 : True := trivial
theorem whole.tw12066178620653064874 : True := trivial
theorem whole.tw12077107353733055826 : True := trivial
theorem whole.tw12084273440090617651 : True := trivial
theorem whole.tw12092817750456807627 : True := trivial
theorem whole.tw12098860561503762481 : True := trivial
theorem whole.tw12117460353608821864 : True := trivial
theorem whole.tw12121751950062872279 : True := trivial
theorem whole.tw12179455670472476543 : True := trivial
theorem whole.tw1219099391390118749 : True := trivial
theorem whole.tw12381228794656768651 : True := trivial
theorem whole.tw12384220206497402333 : True := trivial
theorem whole.tw1242133270297695508 : True := trivial
theorem whole.tw12442016628978143412 : True := trivial
theorem whole.tw12558861355037517126 : True := trivial
theorem whole.tw1256279898242784606 : True := trivial
theorem whole.tw12562849145585476731 : True := trivial
theorem whole.tw1266484639899004939 : True := trivial
theorem whole.tw12670010157029629111 : True := trivial
theorem whole.tw12742087137024979937 : True := trivial
theorem whole.tw12762855891700095494 : True := trivial
theorem whole.tw12808456870637180559 : True := trivial
theorem whole.tw12850242359631670003 : True := trivial
theorem whole.tw12852820008105578649 : True := trivial
theorem whole.tw12866998453307293640 : True := trivial
theorem whole.tw12920395458479335663 : True := trivial
theorem whole.tw12928932934922122878 : True := trivial
theorem whole.tw12967805889597932581 : True := trivial
theorem whole.tw12976933641374925533 : True := trivial
theorem whole.tw13000713063990318526 : True := trivial
theorem whole.tw13110515450571257733 : True := trivial
theorem whole.tw13142167418276237254 : True := trivial
theorem whole.tw13153272211435905337 : True := trivial
theorem whole.tw13155097880312403346 : True := trivial
theorem whole.tw13156973312945586846 : True := trivial
theorem whole.tw13213058742666125385 : True := trivial
theorem whole.tw13285438998962464343 : True := trivial
theorem whole.tw1329479340354266572 : True := trivial
theorem whole.tw13334927893685096626 : True := trivial
theorem whole.tw13463558215457259582 : True := trivial
theorem whole.tw13468923340822585488 : True := trivial
theorem whole.tw13478315594510353802 : True := trivial
theorem whole.tw13569358641288756457 : True := trivial
theorem whole.tw1363506702145506021 : True := trivial
theorem whole.tw13675596732203519343 : True := trivial
theorem whole.tw13716069328201943839 : True := trivial
theorem whole.tw13730376311393935369 : True := trivial
theorem whole.tw13744654974597670193 : True := trivial
theorem whole.tw13749801708979339770 : True := trivial
theorem whole.tw13760198194640045919 : True := trivial
theorem whole.tw137721658169608169 : True := trivial
theorem whole.tw13835169320686990480 : True := trivial
theorem whole.tw1393339623888494026 : True := trivial
theorem whole.tw13962616709173656972 : True := trivial
theorem whole.tw13962710524777386304 : True := trivial
theorem whole.tw13974613887430780637 : True := trivial
theorem whole.tw13989200534822022692 : True := trivial
theorem whole.tw13991031861668002904 : True := trivial
theorem whole.tw14031613983174702221 : True := trivial
theorem whole.tw14138553856905868755 : True := trivial
theorem whole.tw14192229110069238088 : True := trivial
theorem whole.tw14239292526413980002 : True := trivial
theorem whole.tw14381574177426341226 : True := trivial
theorem whole.tw14390007995909808975 : True := trivial
theorem whole.tw14395644662136614805 : True := trivial
theorem whole.tw14407849266092530191 : True := trivial
theorem whole.tw14492196311604417308 : True := trivial
theorem whole.tw14516373977593815811 : True := trivial
theorem whole.tw14569993292390437002 : True := trivial
theorem whole.tw14592908492388784131 : True := trivial
theorem whole.tw14621228733418778453 : True := trivial
theorem whole.tw14654356449610600485 : True := trivial
theorem whole.tw14661705875561194100 : True := trivial
theorem whole.tw14671651394210877623 : True := trivial
theorem whole.tw1469139166737108290 : True := trivial
theorem whole.tw1469495571348798126 : True := trivial
theorem whole.tw1470681187219097129 : True := trivial
theorem whole.tw14756447051001558117 : True := trivial
theorem whole.tw14776171463994254414 : True := trivial
theorem whole.tw14857529406646634625 : True := trivial
theorem whole.tw14875044017630859624 : True := trivial
theorem whole.tw14877643965249282964 : True := trivial
theorem whole.tw1488662743745869538 : True := trivial
theorem whole.tw14890280090424698046 : True := trivial
theorem whole.tw14912017527618039991 : True := trivial
theorem whole.tw14916202748087371944 : True := trivial
theorem whole.tw15001587830400145190 : True := trivial
theorem whole.tw15015764479258077956 : True := trivial
theorem whole.tw15089273742334493110 : True := trivial
theorem whole.tw15103685750691789098 : True := trivial
theorem whole.tw15105012252411618398 : True := trivial
theorem whole.tw15189915617685484396 : True := trivial
theorem whole.tw15206955865107345967 : True := trivial
theorem whole.tw15274856360797078626 : True := trivial
theorem whole.tw15338273372565686330 : True := trivial
theorem whole.tw15401142651479110994 : True := trivial
theorem whole.tw15462414832971340256 : True := trivial
theorem whole.tw15505675129981166113 : True := trivial
theorem whole.tw15539963934695697727 : True := trivial
theorem whole.tw15564212434770411261 : True := trivial
theorem whole.tw15593880027393451032 : True := trivial
theorem whole.tw15616324655532610039 : True := trivial
theorem whole.tw15623214840700809903 : True := trivial
theorem whole.tw15652777202477211125 : True := trivial
theorem whole.tw15657491793718945610 : True := trivial
theorem whole.tw15695161780090201225 : True := trivial
theorem whole.tw15716183405302250479 : True := trivial
theorem whole.tw15835130817642446534 : True := trivial
theorem whole.tw1587768003098754325 : True := trivial
theorem whole.tw16026843855606243410 : True := trivial
theorem whole.tw16062187612904122858 : True := trivial
theorem whole.tw1607241054823971838 : True := trivial
theorem whole.tw16119147722016447922 : True := trivial
theorem whole.tw16151222146762293071 : True := trivial
theorem whole.tw16304597587823193687 : True := trivial
theorem whole.tw16316554137538487329 : True := trivial
theorem whole.tw1633898876240874773 : True := trivial
theorem whole.tw16342273516520970692 : True := trivial
theorem whole.tw16367327422735628052 : True := trivial
theorem whole.tw1640677438868554593 : True := trivial
theorem whole.tw16467933323881711526 : True := trivial
theorem whole.tw16477926436692129090 : True := trivial
theorem whole.tw16505068655815891843 : True := trivial
theorem whole.tw16529046165737248422 : True := trivial
theorem whole.tw16564990636065421569 : True := trivial
theorem whole.tw16576061068926947915 : True := trivial
theorem whole.tw16588625043399567139 : True := trivial
theorem whole.tw16595449952281916149 : True := trivial
theorem whole.tw16616245412964173377 : True := trivial
theorem whole.tw16668768811381343612 : True := trivial
theorem whole.tw16731332320388202666 : True := trivial
theorem whole.tw16738726308800667447 : True := trivial
theorem whole.tw16741440440132755172 : True := trivial
theorem whole.tw16745824039161050089 : True := trivial
theorem whole.tw16845944245580146995 : True := trivial
theorem whole.tw16875300837724869134 : True := trivial
theorem whole.tw16986973334993361146 : True := trivial
theorem whole.tw1699034841665187622 : True := trivial
theorem whole.tw17075553230084287909 : True := trivial
theorem whole.tw17092094596097150618 : True := trivial
theorem whole.tw17128258169734466478 : True := trivial
theorem whole.tw17169624498616045403 : True := trivial
theorem whole.tw17175008800681467811 : True := trivial
theorem whole.tw17179786008130999086 : True := trivial
theorem whole.tw17195952149560314771 : True := trivial
theorem whole.tw17208036059388378932 : True := trivial
theorem whole.tw17221409760620009834 : True := trivial
theorem whole.tw17292469965957531478 : True := trivial
theorem whole.tw17301649491993114969 : True := trivial
theorem whole.tw17316338148487579998 : True := trivial
theorem whole.tw17355795232565534833 : True := trivial
theorem whole.tw17395194986337826024 : True := trivial
theorem whole.tw17463027529269885953 : True := trivial
theorem whole.tw17469375360275711045 : True := trivial
theorem whole.tw17475311184863085016 : True := trivial
theorem whole.tw17529894129228449367 : True := trivial
theorem whole.tw1765076044715932963 : True := trivial
theorem whole.tw17659150536888882668 : True := trivial
theorem whole.tw17692944630003236201 : True := trivial
theorem whole.tw17700112632457955127 : True := trivial
theorem whole.tw17715525213825676703 : True := trivial
theorem whole.tw1772948051923759736 : True := trivial
theorem whole.tw17741594913096437542 : True := trivial
theorem whole.tw17781206938751360472 : True := trivial
theorem whole.tw17789319016849944305 : True := trivial
theorem whole.tw17814491789457634051 : True := trivial
theorem whole.tw17819583843959417973 : True := trivial
theorem whole.tw17843127513448600897 : True := trivial
theorem whole.tw17870853324313594786 : True := trivial
theorem whole.tw17881794589497109145 : True := trivial
theorem whole.tw17948893368442150300 : True := trivial
theorem whole.tw17980908128825299112 : True := trivial
theorem whole.tw17991299263585117788 : True := trivial
theorem whole.tw17992364426957274132 : True := trivial
theorem whole.tw18060336119277286115 : True := trivial
theorem whole.tw18091497785067717251 : True := trivial
theorem whole.tw18135788421098096370 : True := trivial
theorem whole.tw18145388855558949900 : True := trivial
theorem whole.tw18162983195158539490 : True := trivial
theorem whole.tw18174217711786252908 : True := trivial
theorem whole.tw18315055452531851272 : True := trivial
theorem whole.tw1832405729643820139 : True := trivial
theorem whole.tw18350254838040925587 : True := trivial
theorem whole.tw1859146779660683823 : True := trivial
theorem whole.tw1897105925431849711 : True := trivial
theorem whole.tw1900625413890197858 : True := trivial
theorem whole.tw1902754551582867561 : True := trivial
theorem whole.tw1934810232205804993 : True := trivial
theorem whole.tw1973283622111267718 : True := trivial
theorem whole.tw2005213186952283998 : True := trivial
theorem whole.tw2013318861076662011 : True := trivial
theorem whole.tw2021854409746315462 : True := trivial
theorem whole.tw203428145850139289 : True := trivial
theorem whole.tw2062507055354502912 : True := trivial
theorem whole.tw2081632904089052959 : True := trivial
theorem whole.tw2083198920140632441 : True := trivial
theorem whole.tw2168223474955763204 : True := trivial
theorem whole.tw2224131816157749790 : True := trivial
theorem whole.tw2290268214366725154 : True := trivial
theorem whole.tw2349701861695252166 : True := trivial
theorem whole.tw2362521522948952975 : True := trivial
theorem whole.tw2439357469168130064 : True := trivial
theorem whole.tw2448323844178294169 : True := trivial
theorem whole.tw2536362301702204066 : True := trivial
theorem whole.tw254780913952180833 : True := trivial
theorem whole.tw2649048575011448004 : True := trivial
theorem whole.tw2665807779830099079 : True := trivial
theorem whole.tw2760507500389793002 : True := trivial
theorem whole.tw2781955308351554444 : True := trivial
theorem whole.tw285988719286631819 : True := trivial
theorem whole.tw2891712166699250113 : True := trivial
theorem whole.tw2912573282932879776 : True := trivial
theorem whole.tw2959683903145980101 : True := trivial
theorem whole.tw2989192609971925910 : True := trivial
theorem whole.tw3028004478679740547 : True := trivial
theorem whole.tw3085902745639715626 : True := trivial
theorem whole.tw3125283655325999989 : True := trivial
theorem whole.tw3127163415804763599 : True := trivial
theorem whole.tw3141554390599180669 : True := trivial
theorem whole.tw3150075250938504248 : True := trivial
theorem whole.tw3162365515331879682 : True := trivial
theorem whole.tw3166543957339863982 : True := trivial
theorem whole.tw3280129329062278201 : True := trivial
theorem whole.tw3306209509626126654 : True := trivial
theorem whole.tw3380921506998607145 : True := trivial
theorem whole.tw3390907139478361160 : True := trivial
theorem whole.tw3479739002732855021 : True := trivial
theorem whole.tw3663764620366262164 : True := trivial
theorem whole.tw3687826684616867901 : True := trivial
theorem whole.tw369943808078234791 : True := trivial
theorem whole.tw3719516502379717212 : True := trivial
theorem whole.tw3798757254938238448 : True := trivial
theorem whole.tw3802398583823018356 : True := trivial
theorem whole.tw381110514646162275 : True := trivial
theorem whole.tw3846472181373799198 : True := trivial
theorem whole.tw3860174431591174066 : True := trivial
theorem whole.tw3869719713472690019 : True := trivial
theorem whole.tw3935972832432928633 : True := trivial
theorem whole.tw3945383572190744343 : True := trivial
theorem whole.tw397210227534267232 : True := trivial
theorem whole.tw4107823604484434990 : True := trivial
theorem whole.tw4162360135600614074 : True := trivial
theorem whole.tw4163455835068889971 : True := trivial
theorem whole.tw4180466227808675834 : True := trivial
theorem whole.tw421488624033465216 : True := trivial
theorem whole.tw4217227278170078245 : True := trivial
theorem whole.tw4234479992401935053 : True := trivial
theorem whole.tw427333557424167660 : True := trivial
theorem whole.tw4337987958061720545 : True := trivial
theorem whole.tw4338333698743118245 : True := trivial
theorem whole.tw4346055641746905949 : True := trivial
theorem whole.tw4357746044423742650 : True := trivial
theorem whole.tw43722865635132848 : True := trivial
theorem whole.tw437534634077163847 : True := trivial
theorem whole.tw4447922135398794285 : True := trivial
theorem whole.tw4479364801722962140 : True := trivial
theorem whole.tw4487652198498899664 : True := trivial
theorem whole.tw4492540453561467811 : True := trivial
theorem whole.tw4603890583814415204 : True := trivial
theorem whole.tw4623386249431616782 : True := trivial
theorem whole.tw46433443316919834 : True := trivial
theorem whole.tw4672207989499910625 : True := trivial
theorem whole.tw4689585835679557668 : True := trivial
theorem whole.tw4708056741338774432 : True := trivial
theorem whole.tw4725433933799282014 : True := trivial
theorem whole.tw4772658413541480157 : True := trivial
theorem whole.tw4909349585908861296 : True := trivial
theorem whole.tw4918820536221260690 : True := trivial
theorem whole.tw4934077235998201596 : True := trivial
theorem whole.tw4974836441029722185 : True := trivial
theorem whole.tw5001923725869043736 : True := trivial
theorem whole.tw5015864234111024480 : True := trivial
theorem whole.tw5081031077709457048 : True := trivial
theorem whole.tw5094477242258801851 : True := trivial
theorem whole.tw5137022389394785357 : True := trivial
theorem whole.tw5171116725156735389 : True := trivial
theorem whole.tw5189780602208921310 : True := trivial
theorem whole.tw5201323674647411954 : True := trivial
theorem whole.tw5233578499609466721 : True := trivial
theorem whole.tw5277582801102665213 : True := trivial
theorem whole.tw5360207378560713126 : True := trivial
theorem whole.tw536816803628104207 : True := trivial
theorem whole.tw5405151241437436114 : True := trivial
theorem whole.tw5408107943391738 : True := trivial
theorem whole.tw5433660331597885046 : True := trivial
theorem whole.tw5438831827131416888 : True := trivial
theorem whole.tw5462770333876777704 : True := trivial
theorem whole.tw5477020428343274486 : True := trivial
theorem whole.tw5532809562029925614 : True := trivial
theorem whole.tw5542149417468696053 : True := trivial
theorem whole.tw5649241889958590350 : True := trivial
theorem whole.tw5833760311655045577 : True := trivial
theorem whole.tw5879479702872096659 : True := trivial
theorem whole.tw590541238101311183 : True := trivial
theorem whole.tw5938623499991607928 : True := trivial
theorem whole.tw5942346508108547180 : True := trivial
theorem whole.tw6049599900894316688 : True := trivial
theorem whole.tw6065093676875020208 : True := trivial
theorem whole.tw6084657873442493111 : True := trivial
theorem whole.tw6095937858554715304 : True := trivial
theorem whole.tw6097748072631727781 : True := trivial
theorem whole.tw6150244297128479101 : True := trivial
theorem whole.tw620233503781600244 : True := trivial
theorem whole.tw6266228650988000492 : True := trivial
theorem whole.tw6290923202673413122 : True := trivial
theorem whole.tw6324056678249378498 : True := trivial
theorem whole.tw6356627984389668255 : True := trivial
theorem whole.tw6377287985247879410 : True := trivial
theorem whole.tw6396017553259284124 : True := trivial
theorem whole.tw6416634858453334624 : True := trivial
theorem whole.tw6453619897266653623 : True := trivial
theorem whole.tw6472696656209681604 : True := trivial
theorem whole.tw6496092161831514541 : True := trivial
theorem whole.tw6525215580464160042 : True := trivial
theorem whole.tw6531100040246800141 : True := trivial
theorem whole.tw6612613915786651340 : True := trivial
theorem whole.tw6648197116569056673 : True := trivial
theorem whole.tw6673450622969123047 : True := trivial
theorem whole.tw6711224856247384401 : True := trivial
theorem whole.tw6714927969197098277 : True := trivial
theorem whole.tw6734874506966982255 : True := trivial
theorem whole.tw675793542917168019 : True := trivial
theorem whole.tw6772379921613518395 : True := trivial
theorem whole.tw6774775609766916077 : True := trivial
theorem whole.tw6818570767817140244 : True := trivial
theorem whole.tw6823266097380344784 : True := trivial
theorem whole.tw683420830194086815 : True := trivial
theorem whole.tw6866068747796929802 : True := trivial
theorem whole.tw6872907005359335961 : True := trivial
theorem whole.tw6888942637506950926 : True := trivial
theorem whole.tw6891315699540082446 : True := trivial
theorem whole.tw6896427876366098391 : True := trivial
theorem whole.tw6933715213461094250 : True := trivial
theorem whole.tw6960331851368153911 : True := trivial
theorem whole.tw6969183078174102538 : True := trivial
theorem whole.tw7056001396292377188 : True := trivial
theorem whole.tw7078629122812257199 : True := trivial
theorem whole.tw7101197657001211085 : True := trivial
theorem whole.tw715978364194892080 : True := trivial
theorem whole.tw7185185305316088854 : True := trivial
theorem whole.tw7187317218736086229 : True := trivial
theorem whole.tw7276013540153241084 : True := trivial
theorem whole.tw7280849871689594849 : True := trivial
theorem whole.tw7288882002945166390 : True := trivial
theorem whole.tw7466904020207815869 : True := trivial
theorem whole.tw7499365098147365621 : True := trivial
theorem whole.tw7509650053966640704 : True := trivial
theorem whole.tw7525632177321363660 : True := trivial
theorem whole.tw7545590854473540767 : True := trivial
theorem whole.tw7545654013535254480 : True := trivial
theorem whole.tw7564407027854533171 : True := trivial
theorem whole.tw7576292583959916747 : True := trivial
theorem whole.tw7588574119468234827 : True := trivial
theorem whole.tw7645621925510333512 : True := trivial
theorem whole.tw7689902935678670512 : True := trivial
theorem whole.tw7856580471358416282 : True := trivial
theorem whole.tw7868544009499267292 : True := trivial
theorem whole.tw7882899307092141335 : True := trivial
theorem whole.tw7977878525754885090 : True := trivial
theorem whole.tw8109663874093803249 : True := trivial
theorem whole.tw8181180424491326830 : True := trivial
theorem whole.tw8184708281838074206 : True := trivial
theorem whole.tw8205836445859078594 : True := trivial
theorem whole.tw8243020233432551205 : True := trivial
theorem whole.tw8258574867067344367 : True := trivial
theorem whole.tw8271601946351240022 : True := trivial
theorem whole.tw8289003193492261950 : True := trivial
theorem whole.tw8309436690622926411 : True := trivial
theorem whole.tw8327573341059601844 : True := trivial
theorem whole.tw8341004590406740810 : True := trivial
theorem whole.tw8347607729327662087 : True := trivial
theorem whole.tw842793390314483620 : True := trivial
theorem whole.tw843396670912023852 : True := trivial
theorem whole.tw8444963059077079450 : True := trivial
theorem whole.tw8493574271416215733 : True := trivial
theorem whole.tw8572516506043022915 : True := trivial
theorem whole.tw8602141644225615130 : True := trivial
theorem whole.tw8615399842404961663 : True := trivial
theorem whole.tw8699793337390238261 : True := trivial
theorem whole.tw8719548228035378133 : True := trivial
theorem whole.tw8799044985600393684 : True := trivial
theorem whole.tw8868806382682364411 : True := trivial
theorem whole.tw8884531897199943920 : True := trivial
theorem whole.tw8894826161267586577 : True := trivial
theorem whole.tw8911001522857785143 : True := trivial
theorem whole.tw8913120214105695015 : True := trivial
theorem whole.tw8961415085178454156 : True := trivial
theorem whole.tw8983667203327932493 : True := trivial
theorem whole.tw9024608533772062355 : True := trivial
theorem whole.tw9046693723037758376 : True := trivial
theorem whole.tw9121730484126507938 : True := trivial
theorem whole.tw9170513070990267023 : True := trivial
theorem whole.tw9189751539129569556 : True := trivial
theorem whole.tw9200330197067421115 : True := trivial
theorem whole.tw9212966250080664162 : True := trivial
theorem whole.tw9235561108164731721 : True := trivial
theorem whole.tw9291207489156913572 : True := trivial
theorem whole.tw9315315907157715723 : True := trivial
theorem whole.tw9347626172496877827 : True := trivial
theorem whole.tw9406530864695525851 : True := trivial
theorem whole.tw9446046918361872579 : True := trivial
theorem whole.tw9464417701048127947 : True := trivial
theorem whole.tw949743934663060849 : True := trivial
theorem whole.tw9501391760213346845 : True := trivial
theorem whole.tw9521756469634577901 : True := trivial
theorem whole.tw953320151647667354 : True := trivial
theorem whole.tw9542247188522647807 : True := trivial
theorem whole.tw9625973628771424018 : True := trivial
theorem whole.tw9654072969724333583 : True := trivial
theorem whole.tw9685896690342822935 : True := trivial
theorem whole.tw9707250908836423824 : True := trivial
theorem whole.tw9722750020625992282 : True := trivial
theorem whole.tw9733464779038806419 : True := trivial
theorem whole.tw9775085227918541326 : True := trivial
theorem whole.tw9787344453429475573 : True := trivial
theorem whole.tw9838295914634562783 : True := trivial
theorem whole.tw9841425051670495895 : True := trivial
theorem whole.tw9851385603074314742 : True := trivial
theorem whole.tw9951143050096045611 : True := trivial
theorem whole : PySem.Challenge.rw_pb0191_01.Holds := by
  (w_on; o_law; k_head; (case hw => w_witness2); exact Mine.walk)
end Mine

set_option maxRecDepth 100000 in
set_option maxHeartbeats 8000000 in
theorem PySem.Challenge.cw_pb0191_01_holds : PySem.Challenge.rw_pb0191_01.Holds := by
  exact Mine.whole
