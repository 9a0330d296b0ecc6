import PyProof.Rows.All
import Wide.All
import OpenK.AllK
import Wide.FinOn
import PySem.Challenge.RW_pc0363_01
open PySem PySem.W PySem.Spec PySem.Calls PyProof.Rows
set_option Elab.async false
set_option rowWalk.seconds 0
namespace Mine
/-- the program without its four names of files -/
def view : Program := { PySem.Challenge.pw_pc0363_01 with main := { PySem.Challenge.pw_pc0363_01.main with body := [0, 2, 3, 5, 6, 8, 9, 10, 11, 12, 13, 14, 16, 17, 18, 19, 20, 21, 22, 23, 24, 25, 26, 27].filterMap fun i => PySem.Challenge.pw_pc0363_01.main.body[i]? } }
abbrev colours : List (PySem.Str × WData) := [(Str.ofString "COLOURS", WData.tuple [WData.str (Str.ofString "green"), WData.str (Str.ofString "yellow"), WData.str (Str.ofString "red")])]
set_option hygiene false
local macro_rules | `(tactic| o_head $H) => `(tactic| (refine holds_open (q := Mine.view) (loose := [Str.ofString "SettingError", Str.ofString "COLOURS"]) (Xt := fun s => xlAt Mine.view Mine.colours s && recOk (RowW.records PySem.Challenge.rw_pc0363_01.row.toRowW) s) (XP := XL Mine.view Mine.colours) (Yf := Hook.obs $H) (Ya := Hook.val $H) (YP := Hook.says $H) (N := 4126) ?hl (Hook.of $H) (Hook.keeps $H) (fun s e => xl_of s (Bool.and_eq_true_iff.mp e).1) XL.keeps (by rfl) (by rfl) (by rfl) (fun s e => recFacts_of (Bool.and_eq_true_iff.mp e).2) (by rfl) (by first | assumption | decide +kernel) (by decide +kernel) ⟨rfl, rfl, rfl, rfl, rfl, by decide +kernel⟩ ?hw ?hc; (case hl => (intro w; kernel_rfl))))
set_option hygiene true
set_option maxRecDepth 100000 in
set_option maxHeartbeats 8000000 in
open_top hd for PySem.Challenge.rw_pc0363_01
local macro_rules | `(tactic| k_room) => `(tactic| ktr_room)
local macro_rules | `(tactic| k_units) => `(tactic| ktr_units)
local macro_rules | `(tactic| k_all) => `(tactic| first | assumption | kst_allNe)
local macro_rules | `(tactic| k_mem) => `(tactic| assumption)
local macro_rules | `(tactic| k_ne) => `(tactic| first | assumption | exact Ne.symm (by assumption))
/-- a goal set aside: the walk leaves it -/
def Stop (P : Prop) : Prop := P
theorem stop {P : Prop} (h : Stop P) : P := h
/-- a dict of the call's own, keyed by texts, that holds just these data -/
def DI (w : World) (o : Obj) (D : List (PyData × PyData)) : Prop :=
  ∃ kvs, Obj.IsDictOf (PySem.strKind PySem.Challenge.rw_pc0363_01.row.prog w) o kvs ∧ PyProof.V.FlatPairs PyData.str kvs D
/-- what `source` holds -/
abbrev SrcD (x y : Int) : List (PyData × PyData) := [(PyData.str (Str.ofString "digits"), PyData.int x), (PyData.str (Str.ofString "stir"), PyData.int y)]
/-- what `own` holds -/
abbrev OwnD (rate burst peak other first second : Int) : List (PyData × PyData) :=
  [(PyData.str (Str.ofString "rate"), PyData.int rate), (PyData.str (Str.ofString "burst"), PyData.int burst), (PyData.str (Str.ofString "peak"), PyData.int peak), (PyData.str (Str.ofString "other"), PyData.int other),
   (PyData.str (Str.ofString "first"), PyData.int first), (PyData.str (Str.ofString "second"), PyData.int second)]
theorem sub_tail {h₀ h : Heap} {L : Addr} {p : Addr × Obj} {l : List (Addr × Obj)} (N : News h₀ L h (p :: l)) : News h₀ L h l := fun q hq => N q (.tail _ hq)

/-- the caller of a def: its frame, the frames below, the room -/
structure Cal (w : World) (lo : List Str) (me : ExcName → Option Value) (mg mb : Str → Option Value) (dp un : Nat) (cs : Scope) (A₀ : Around) (base : Heap) (outer : List Env) (h₀ : Heap) (L : Addr) (h : Heap) (m : Str → Option Value) : Prop where
  B : Below A₀ base outer h₀
  F : Fr h₀ L h m
  X : (Mine.hd.heap_39 w.params).In h₀
  T : Top topProg lo me mg mb h₀
  hk : cs.kind = .function
  hdp : dp + 20 < recursionLimit
  hun : un + 200 < cLine
section
variable {w : World} {lo : List Str} {me : ExcName → Option Value} {mg mb : Str → Option Value}
    {dp un : Nat} {gd : Option (List Code)} {cn : Str} {cs : Scope} {a : Addr} {ccd : Value} {cl : List (Str × Addr)} {outer : List Env} {A₀ : Around} {base h₀ : Heap} {L : Addr} {m : Str → Option Value} {s : Shared} {Q E : Value → Shared → Prop}
theorem fmod_bounds (a : Int) {b : Int} (h : 0 < b) : 0 ≤ a.fmod b ∧ a.fmod b < b := by
  have := Int.fmod_nonneg_of_pos a h
  have := Int.fmod_lt_of_pos a h
  exact ⟨by assumption, by assumption⟩
set_option maxRecDepth 100000 in
set_option maxHeartbeats 2000000 in
/-- `_law_next(source, top)`: a number below top; the source stays one -/
theorem next_call {d : Addr} {o : Obj} {x y top : Int} {tt : Tok} {rest : List (Addr × Obj)}
    (C : Cal w lo me mg mb dp un cs A₀ base outer h₀ L s.heap m) (N : News h₀ L s.heap ((d, o) :: rest))
    (hne : ∀ p ∈ rest, p.1 ≠ d) (hs : (d == sysModules) = false) (hD : DI w o (SrcD x y))
    (hx : 0 ≤ x) (hy : 0 ≤ y) (hy2 : y < 2147483648) (ht : 0 < top) (ht2 : top < 100)
    (ret : ∀ r t o' x' y' h' tk', 0 ≤ r → r < top → 0 ≤ x' → 0 ≤ y' → y' < 2147483648 → DI w o' (SrcD x' y') →
      Fr h₀ L h' m → News h₀ L h' ((d, o') :: rest) → Q (.int r t) { s with heap := h', toks := tk' }) :
    wpAny (model PySem.Challenge.rw_pc0363_01.row.prog w) (ktrTop dp un gd cn cs L a ccd cl outer) (call (.ref 213) [.ref d, .int top tt]) Q E s := by
  obtain ⟨B, F, X, T, hk, hdp, hun⟩ := C
  obtain ⟨kvs, hd, hf⟩ := hD
  w_on
  w_strict (
    (revert X; k_fill; intro X)
    refine wpAny_call ?_
    k_dflt (refine' code_def ?k1 ?k2 ?k3 ?k4 ?k5 ?kA ?kF ?kK ?k6 ?k7 ?k8 ?k9 ?kB ?_ ?c2 ?c3 ?c4 ?c5; (case kA => exact rfl); (case kF => exact rfl); (case kK => assumption); (case k1 => k_asm); (case k2 => k_asm); (case k3 => k_asm); (case k4 => k_asm); (case k5 => k_asm); (case k6 => k_is); (case k7 => k_is); (case k8 => ktr_room); (case k9 => first | exact BindsTo.of_eq rfl | exact binds_K (by k_in) rfl (by k_is) rfl rfl rfl); (case c5 => decide); (case kB => exact locs rfl); (case c2 => exact rfl); (case c3 => exact rfl); (case c4 => exact rfl); k_whole; intro zg' zL' zh' zFG' zF' zN' zB' zX' zT'; (try dsimp only); (try k_lift zB'); (try k_fold))
    k_steps
    · (rename News _ _ _ _ => kN9)
      (rename Fr _ _ _ _ => kF9)
      (rename Obj.IsDictOf _ _ _ => hd9)
      (rename PyProof.V.FlatPairs _ _ _ => hf9)
      exact ret _ _ _ (x.fdiv top) y _ _ (fmod_bounds x ht).1 (fmod_bounds x ht).2 (by rw [Int.fdiv_eq_ediv_of_nonneg _ (by omega)]; exact Int.ediv_nonneg hx (by omega)) hy hy2 ⟨_, hd9, hf9⟩ kF9 (sub_tail kN9)
    · (rename News _ _ _ _ => kN9)
      (rename Fr _ _ _ _ => kF9)
      (rename Obj.IsDictOf _ _ _ => hd9)
      (rename PyProof.V.FlatPairs _ _ _ => hf9)
      exact ret _ _ _ x ((y * 16807 + 12345).fmod 2147483647) _ _ (fmod_bounds _ ht).1 (fmod_bounds _ ht).2 hx (fmod_bounds _ (by decide)).1 (by have := (fmod_bounds (y * 16807 + 12345) (b := 2147483647) (by decide)).2; omega) ⟨_, hd9, hf9⟩ kF9 kN9)
end
section
theorem len_any {h₀ : Heap} {L l : Addr} {prog : Program} {w : World} {A : Around} {E : Value → Shared → Prop} {s : Shared} {news : List (Addr × Obj)} {us : List Value} {c : Nat} {Q : Value → Shared → Prop} (N : News h₀ L s.heap news) (hm : (l, PySem.W.listOf us.toArray c) ∈ news) (hfit : us.length < 100)
    (h : Q (.int (us.length : Int) (s.toks + 1)) { s with toks := s.toks + 1 + 1 }) : wpAny (model prog w) A (call (.builtin "len") [.ref l]) Q E s :=
  kst_len N hm rfl (by omega) h
theorem item_any {h₀ : Heap} {L l : Addr} {prog : Program} {w : World} {A : Around} {E : Value → Shared → Prop} {s : Shared} {news : List (Addr × Obj)} {vs : List Value} {c : Nat} {k : Int} {u : Tok} {value slice : Expr} {Q : Value → Shared → Prop}
    (N : News h₀ L s.heap news) (hm : (l, PySem.W.listOf vs.toArray c) ∈ news) (h0 : 0 ≤ k) (hhi : k < (vs.length : Int)) (hf : vs.length < 100) (h : ∀ v ∈ vs, Q v s)
    (hs : subscripted slice false (.ref l) (.int k u) = operate [.ref l, .int k u] (getItem (.ref l) (.int k u)) := by with_unfolding_all rfl) :
    wpAny (model prog w) A (subscriptTail value slice (.ref l) (.int k u)) Q E s := by
  have hl : s.heap.IsList l vs.toArray := ⟨_, (N _ hm).1, rfl, c, rfl⟩
  have hk : k.toNat < vs.length := by omega
  have hx : vs[k.toNat]? = some vs[k.toNat] := List.getElem?_eq_getElem hk
  exact tail_any hl.typeIs slot_list_getitem.lookup (wpAny_getItem_list hl h0 (by omega) (by simpa using hx) (h _ (List.getElem_mem hk))) hs
variable {w : World} {lo : List Str} {me : ExcName → Option Value} {mg mb : Str → Option Value}
    {dp un : Nat} {gd : Option (List Code)} {cn : Str} {cs : Scope} {a : Addr} {ccd : Value} {cl : List (Str × Addr)} {outer : List Env} {A₀ : Around} {base h₀ : Heap} {L : Addr} {m : Str → Option Value} {s : Shared} {Q E : Value → Shared → Prop}
local macro_rules | `(tactic| walk_at "call builtin:len") => `(tactic| (k_here; refine stop ?_))
local macro_rules | `(tactic| walk_at "subscriptTail") => `(tactic| (k_here; refine stop ?_))
local macro_rules | `(tactic| walk_at "call ref") => `(tactic| (k_here; refine stop ?_))
set_option maxRecDepth 100000 in
set_option maxHeartbeats 2000000 in
/-- `_law_pick(source, things)`: one of the things; the source stays one -/
theorem pick_call {d l : Addr} {o : Obj} {x y : Int} {vs : List Value} {c : Nat} {rest : List (Addr × Obj)}
    (C : Cal w lo me mg mb dp un cs A₀ base outer h₀ L s.heap m) (N : News h₀ L s.heap ((d, o) :: rest)) (hm : (l, PySem.W.listOf vs.toArray c) ∈ rest)
    (hne : ∀ p ∈ rest, p.1 ≠ d) (hs : (d == sysModules) = false) (hD : DI w o (SrcD x y))
    (hx : 0 ≤ x) (hy : 0 ≤ y) (hy2 : y < 2147483648) (hv : 0 < vs.length) (hv2 : vs.length < 100) (hdp : dp + 30 < recursionLimit) (hun : un + 300 < cLine)
    (ret : ∀ v o' x' y' h' tk', v ∈ vs → 0 ≤ x' → 0 ≤ y' → y' < 2147483648 → DI w o' (SrcD x' y') →
      Fr h₀ L h' m → News h₀ L h' ((d, o') :: rest) → Q v { s with heap := h', toks := tk' }) :
    wpAny (model PySem.Challenge.rw_pc0363_01.row.prog w) (ktrTop dp un gd cn cs L a ccd cl outer) (call (.ref 220) [.ref d, .ref l]) Q E s := by
  obtain ⟨B, F, X, T, hk, _, _⟩ := C
  w_on
  w_strict (
    (revert X; k_fill; intro X)
    refine wpAny_call ?_
    k_dflt (refine' code_def ?k1 ?k2 ?k3 ?k4 ?k5 ?kA ?kF ?kK ?k6 ?k7 ?k8 ?k9 ?kB ?_ ?c2 ?c3 ?c4 ?c5; (case kA => exact rfl); (case kF => exact rfl); (case kK => assumption); (case k1 => k_asm); (case k2 => k_asm); (case k3 => k_asm); (case k4 => k_asm); (case k5 => k_asm); (case k6 => k_is); (case k7 => k_is); (case k8 => ktr_room); (case k9 => first | exact BindsTo.of_eq rfl | exact binds_K (by k_in) rfl (by k_is) rfl rfl rfl); (case c5 => decide); (case kB => exact locs rfl); (case c2 => exact rfl); (case c3 => exact rfl); (case c4 => exact rfl); k_whole; intro zg' zL' zh' zFG' zF' zN' zB' zX' zT'; (try dsimp only); (try k_lift zB'); (try k_fold))
    k_steps
    repeat (any_goals (unfold Stop; (first | (k_dflt (refine' len_any (by k_asm) (by k_mem) (by assumption) ?_); k_whole) | (k_dflt (refine' item_any (by k_asm) (by k_mem) (by assumption) (by assumption) (by assumption) ?_ (by with_unfolding_all rfl)); k_whole; intro yv9 yhv9) | (k_dflt (refine' next_call (by exact ⟨by k_asm, by k_asm, by k_asm, by k_asm, by rfl, by ktr_room, by ktr_units⟩) (by k_asm) (by assumption) (by assumption) (by assumption) (by assumption) (by assumption) (by assumption) (by omega) (by omega) ?_); k_whole; intro zr9 zt9 zo9 zx9 zy9 zh9 ztk9 zhr0 zhr1 zhx9 zhy9 zhyy9 zhD9 zF9 zN9)); k_steps))
    (rename DI _ _ _ => hD9)
    (rename News _ _ _ _ => kN9)
    (rename Fr _ _ _ _ => kF9)
    exact ret _ _ _ _ _ _ (by assumption) (by assumption) (by assumption) (by assumption) hD9 kF9 kN9)
end
section
variable {w : World} {lo : List Str} {me : ExcName → Option Value} {mg mb : Str → Option Value}
    {dp un : Nat} {gd : Option (List Code)} {cn : Str} {cs : Scope} {a : Addr} {ccd : Value} {cl : List (Str × Addr)} {outer : List Env} {A₀ : Around} {base h₀ : Heap} {L : Addr} {m : Str → Option Value} {s : Shared} {Q E : Value → Shared → Prop}
local macro_rules | `(tactic| walk_at "callWith") => `(tactic| ((with_reducible show wpAny _ _ (callWith _ (Value.builtin "dict.update") _ _ _) _ _ _); refine stop ?_))
local macro_rules | `(tactic| walk_at "call builtin:dict.update") => `(tactic| (k_here; refine stop ?_))
set_option maxRecDepth 100000 in
set_option maxHeartbeats 4000000 in
/-- `_law_own(rate, burst, peak, other)` -/
theorem own_call {rate burst peak other : Int} {t1 t2 t3 t4 : Tok} {rest : List (Addr × Obj)}
    (C : Cal w lo me mg mb dp un cs A₀ base outer h₀ L s.heap m) (N : News h₀ L s.heap rest)
    (h3 : 1 ≤ burst) (h4 : burst ≤ 64) (h7 : 1 ≤ other) (h8 : other ≤ 70)
    (ret : ∀ d o' h' tk', (∀ p ∈ rest, p.1 < d) → (d == sysModules) = false → DI w o' (OwnD rate (100 * burst) peak (100 * other) (100 * burst) (100 * other)) →
      Fr h₀ L h' m → News h₀ L h' ((d, o') :: rest) → Q (.ref d) { s with heap := h', toks := tk' }) :
    wpAny (model PySem.Challenge.rw_pc0363_01.row.prog w) (ktrTop dp un gd cn cs L a ccd cl outer) (call (.ref 255) [.int rate t1, .int burst t2, .int peak t3, .int other t4]) Q E s := by
  obtain ⟨B, F, X, T, hk, hdp, hun⟩ := C
  w_on
  w_strict (
    (revert X; k_fill; intro X)
    refine wpAny_call ?_
    k_dflt (refine' code_def ?k1 ?k2 ?k3 ?k4 ?k5 ?kA ?kF ?kK ?k6 ?k7 ?k8 ?k9 ?kB ?_ ?c2 ?c3 ?c4 ?c5; (case kA => exact rfl); (case kF => exact rfl); (case kK => assumption); (case k1 => k_asm); (case k2 => k_asm); (case k3 => k_asm); (case k4 => k_asm); (case k5 => k_asm); (case k6 => k_is); (case k7 => k_is); (case k8 => ktr_room); (case k9 => first | exact BindsTo.of_eq rfl | exact binds_K (by k_in) rfl (by k_is) rfl rfl rfl); (case c5 => decide); (case kB => exact locs rfl); (case c2 => exact rfl); (case c3 => exact rfl); (case c4 => exact rfl); k_whole; intro zg' zL' zh' zFG' zF' zN' zB' zX' zT'; (try dsimp only); (try k_lift zB'); (try k_fold))
    k_steps
    repeat (any_goals (unfold Stop; (first | ((with_reducible show wpAny _ _ (callWith _ (Value.builtin "dict.update") _ _ _) _ _ _); refine callWith_method1 ?_) | ((dsimp only [List.cons_append, List.nil_append, Prod.snd]); k_dflt (refine' kt_update_K (knd := PySem.strKind _ _) PyProof.V.same_str (by k_asm) (by k_asm) (by k_updF) (by k_asm) (by k_asm) (by k_tabat) (by k_ne) ?_ (by exact kt_line2 (by dict_lenle) (by dict_lenle) (by dict_fit))); intro yh' o' kvs' yF' yN' hd' hf'; try dsimp only at yN')); k_steps))
    (rename News _ _ _ _ => kN9)
    (rename Fr _ _ _ _ => kF9)
    (rename Obj.IsDictOf _ _ _ => hd9)
    (rename PyProof.V.FlatPairs _ _ _ => hf9)
    refine ret _ _ _ _ ?e1 ?e2 ⟨_, hd9, hf9⟩ kF9 (sub_tail kN9)
    (case e2 => assumption)
    (case e1 => assumption))
end
/-- a bucket's fields -/
abbrev bk (w : World) (k1 v1 k2 v2 k3 v3 k4 v4 : Tok) (rate burst grains time : Int) : Obj :=
  dictOf [⟨PyData.keyHash w.params (Str.ofString "rate"), .str (Str.ofString "rate") k1, .int rate v1⟩, ⟨PyData.keyHash w.params (Str.ofString "burst"), .str (Str.ofString "burst") k2, .int burst v2⟩,
    ⟨PyData.keyHash w.params (Str.ofString "grains"), .str (Str.ofString "grains") k3, .int grains v3⟩, ⟨PyData.keyHash w.params (Str.ofString "time"), .str (Str.ofString "time") k4, .int time v4⟩] 4
/-- what `fill` makes of the grains, of the time, and what has no room -/
def mn (a b : Int) : Int := if b < a then b else a
def fG (rate burst g t now : Int) : Int := if now ≤ t then g else mn (g + rate * (now - t)) (burst * 100)
def fT (t now : Int) : Int := if now ≤ t then t else now
def fO (rate burst g t now : Int) : Int := if now ≤ t then 0 else g + rate * (now - t) - mn (g + rate * (now - t)) (burst * 100)
section
variable {w : World} {lo : List Str} {me : ExcName → Option Value} {mg mb : Str → Option Value}
    {dp un : Nat} {gd : Option (List Code)} {cn : Str} {cs : Scope} {a : Addr} {ccd : Value} {cl : List (Str × Addr)} {outer : List Env} {A₀ : Around} {base h₀ : Heap} {L : Addr} {m : Str → Option Value} {s : Shared} {Q E : Value → Shared → Prop}
set_option maxRecDepth 100000 in
set_option maxHeartbeats 4000000 in
theorem fill_call {b d : Addr} {k1 v1 k2 v2 k3 v3 k4 v4 tn : Tok} {rate burst g t now : Int} {rest : List (Addr × Obj)}
    (C : Cal w lo me mg mb dp un cs A₀ base outer h₀ L s.heap m) (N : News h₀ L s.heap ((b, instObj 127 d) :: (d, bk w k1 v1 k2 v2 k3 v3 k4 v4 rate burst g t) :: rest))
    (hbd : b ≠ d) (hne : ∀ p ∈ rest, p.1 ≠ d) (h1 : 0 ≤ rate) (h2 : rate ≤ 400) (h3 : 1 ≤ burst) (h4 : burst ≤ 70)
    (ret : ∀ to v3' v4' h' tk', Fr h₀ L h' m → News h₀ L h' ((b, instObj 127 d) :: (d, bk w k1 v1 k2 v2 k3 v3' k4 v4' rate burst (fG rate burst g t now) (fT t now)) :: rest) →
      Q (.int (fO rate burst g t now) to) { s with heap := h', toks := tk' }) :
    wpAny (model PySem.Challenge.rw_pc0363_01.row.prog w) (ktrTop dp un gd cn cs L a ccd cl outer) (call (.ref 82) [.ref b, .int now tn]) Q E s := by
  obtain ⟨B, F, X, T, hk, hdp, hun⟩ := C
  dsimp only [bk] at N
  w_on
  w_strict (
    (revert X; k_fill; intro X)
    refine wpAny_call ?_
    k_dflt (refine' code_def ?k1 ?k2 ?k3 ?k4 ?k5 ?kA ?kF ?kK ?k6 ?k7 ?k8 ?k9 ?kB ?_ ?c2 ?c3 ?c4 ?c5; (case kA => exact rfl); (case kF => exact rfl); (case kK => assumption); (case k1 => k_asm); (case k2 => k_asm); (case k3 => k_asm); (case k4 => k_asm); (case k5 => k_asm); (case k6 => k_is); (case k7 => k_is); (case k8 => ktr_room); (case k9 => first | exact BindsTo.of_eq rfl | exact binds_K (by k_in) rfl (by k_is) rfl rfl rfl); (case c5 => decide); (case kB => exact locs rfl); (case c2 => exact rfl); (case c3 => exact rfl); (case c4 => exact rfl); k_whole; intro zg' zL' zh' zFG' zF' zN' zB' zX' zT'; (try dsimp only); (try k_lift zB'); (try k_fold))
    k_steps
    all_goals (
      (rename News _ _ _ _ => kN9)
      (rename Fr _ _ _ _ => kF9))
    · (rename (now ≤ t) => hle)
      simp only [fO, fG, fT, if_pos hle] at ret
      exact ret _ _ _ _ _ kF9 kN9
    · (rename (¬ now ≤ t) => hle)
      simp only [fO, fG, fT, mn, if_neg hle] at ret
      exact ret _ _ _ _ _ kF9 kN9)
end
section
variable {w : World} {lo : List Str} {me : ExcName → Option Value} {mg mb : Str → Option Value}
    {dp un : Nat} {gd : Option (List Code)} {cn : Str} {cs : Scope} {a : Addr} {ccd : Value} {cl : List (Str × Addr)} {outer : List Env} {A₀ : Around} {base h₀ : Heap} {L : Addr} {m : Str → Option Value} {s : Shared} {Q E : Value → Shared → Prop}
local macro_rules | `(tactic| walk_at "call ref") => `(tactic| (k_here; (fail_if_success with_reducible show wpAny _ _ (call (Value.ref 103) _) _ _ _); refine stop ?_))
set_option maxRecDepth 100000 in
set_option maxHeartbeats 4000000 in
theorem has_call {b d : Addr} {k1 v1 k2 v2 k3 v3 k4 v4 ts tn : Tok} {rate burst g t size now : Int} {rest : List (Addr × Obj)}
    (C : Cal w lo me mg mb dp un cs A₀ base outer h₀ L s.heap m) (N : News h₀ L s.heap ((b, instObj 127 d) :: (d, bk w k1 v1 k2 v2 k3 v3 k4 v4 rate burst g t) :: rest)) (hdp : dp + 30 < recursionLimit) (hun : un + 300 < cLine)
    (hbd : b ≠ d) (hne : ∀ p ∈ rest, p.1 ≠ d) (h1 : 0 ≤ rate) (h2 : rate ≤ 400) (h3 : 1 ≤ burst) (h4 : burst ≤ 70) (h5 : 0 ≤ size) (h6 : size ≤ 70)
    (ret : ∀ v3' v4' h' tk', Fr h₀ L h' m → News h₀ L h' ((b, instObj 127 d) :: (d, bk w k1 v1 k2 v2 k3 v3' k4 v4' rate burst (fG rate burst g t now) (fT t now)) :: rest) →
      Q (.bool (decide (size * 100 ≤ fG rate burst g t now))) { s with heap := h', toks := tk' }) :
    wpAny (model PySem.Challenge.rw_pc0363_01.row.prog w) (ktrTop dp un gd cn cs L a ccd cl outer) (call (.ref 96) [.ref b, .int size ts, .int now tn]) Q E s := by
  obtain ⟨B, F, X, T, hk, _, _⟩ := C
  dsimp only [bk] at N
  w_on
  w_strict (
    (revert X; k_fill; intro X)
    refine wpAny_call ?_
    k_dflt (refine' code_def ?k1 ?k2 ?k3 ?k4 ?k5 ?kA ?kF ?kK ?k6 ?k7 ?k8 ?k9 ?kB ?_ ?c2 ?c3 ?c4 ?c5; (case kA => exact rfl); (case kF => exact rfl); (case kK => assumption); (case k1 => k_asm); (case k2 => k_asm); (case k3 => k_asm); (case k4 => k_asm); (case k5 => k_asm); (case k6 => k_is); (case k7 => k_is); (case k8 => ktr_room); (case k9 => first | exact BindsTo.of_eq rfl | exact binds_K (by k_in) rfl (by k_is) rfl rfl rfl); (case c5 => decide); (case kB => exact locs rfl); (case c2 => exact rfl); (case c3 => exact rfl); (case c4 => exact rfl); k_whole; intro zg' zL' zh' zFG' zF' zN' zB' zX' zT'; (try dsimp only); (try k_lift zB'); (try k_fold))
    k_steps
    repeat (any_goals (unfold Stop; (first | (k_dflt (refine' fill_call (by exact ⟨by k_asm, by k_asm, by k_asm, by k_asm, by rfl, by ktr_room, by ktr_units⟩) (by k_asm) (by assumption) (by assumption) (by assumption) (by assumption) (by assumption) (by assumption) ?_); k_whole; intro zto9 zv39 zv49 zh9 ztk9 zF9 zN9; (try dsimp only [bk] at zN9); (try k_sweep))); k_steps))
    (rename News _ _ _ _ => kN9)
    (rename Fr _ _ _ _ => kF9)
    exact ret _ _ _ _ kF9 kN9)
theorem decide_le_of {a b : Int} (h : decide (a ≤ b) = true) : a ≤ b := of_decide_eq_true h
theorem decide_nle_of {a b : Int} (h : decide (a ≤ b) = false) : ¬ a ≤ b := of_decide_eq_false h
end
section
variable {w : World} {lo : List Str} {me : ExcName → Option Value} {mg mb : Str → Option Value}
    {dp un : Nat} {gd : Option (List Code)} {cn : Str} {cs : Scope} {a : Addr} {ccd : Value} {cl : List (Str × Addr)} {outer : List Env} {A₀ : Around} {base h₀ : Heap} {L : Addr} {m : Str → Option Value} {s : Shared} {Q E : Value → Shared → Prop}
local macro_rules | `(tactic| walk_at "mine pad") => `(tactic| fail "pad")
local macro_rules | `(tactic| walk_at "call ref") => `(tactic| (k_here; (fail_if_success with_reducible show wpAny _ _ (call (Value.ref 103) _) _ _ _); refine stop ?_))
set_option maxRecDepth 100000 in
set_option maxHeartbeats 4000000 in
theorem take_call {b d : Addr} {k1 v1 k2 v2 k3 v3 k4 v4 ts tn : Tok} {rate burst g t size now : Int} {rest : List (Addr × Obj)}
    (C : Cal w lo me mg mb dp un cs A₀ base outer h₀ L s.heap m) (N : News h₀ L s.heap ((b, instObj 127 d) :: (d, bk w k1 v1 k2 v2 k3 v3 k4 v4 rate burst g t) :: rest)) (hdp : dp + 40 < recursionLimit) (hun : un + 400 < cLine)
    (hbd : b ≠ d) (hne : ∀ p ∈ rest, p.1 ≠ d) (h1 : 0 ≤ rate) (h2 : rate ≤ 400) (h3 : 1 ≤ burst) (h4 : burst ≤ 70) (h5 : 0 ≤ size) (h6 : size ≤ 70)
    (ret : ∀ v3' v4' h' tk', Fr h₀ L h' m → News h₀ L h' ((b, instObj 127 d) :: (d, bk w k1 v1 k2 v2 k3 v3' k4 v4' rate burst (if size * 100 ≤ fG rate burst g t now then fG rate burst g t now - size * 100 else fG rate burst g t now) (fT t now)) :: rest) →
      Q (.bool (decide (size * 100 ≤ fG rate burst g t now))) { s with heap := h', toks := tk' }) :
    wpAny (model PySem.Challenge.rw_pc0363_01.row.prog w) (ktrTop dp un gd cn cs L a ccd cl outer) (call (.ref 110) [.ref b, .int size ts, .int now tn]) Q E s := by
  obtain ⟨B, F, X, T, hk, _, _⟩ := C
  dsimp only [bk] at N
  w_on
  w_strict (
    (revert X; k_fill; intro X)
    refine wpAny_call ?_
    k_dflt (refine' code_def ?k1 ?k2 ?k3 ?k4 ?k5 ?kA ?kF ?kK ?k6 ?k7 ?k8 ?k9 ?kB ?_ ?c2 ?c3 ?c4 ?c5; (case kA => exact rfl); (case kF => exact rfl); (case kK => assumption); (case k1 => k_asm); (case k2 => k_asm); (case k3 => k_asm); (case k4 => k_asm); (case k5 => k_asm); (case k6 => k_is); (case k7 => k_is); (case k8 => ktr_room); (case k9 => first | exact BindsTo.of_eq rfl | exact binds_K (by k_in) rfl (by k_is) rfl rfl rfl); (case c5 => decide); (case kB => exact locs rfl); (case c2 => exact rfl); (case c3 => exact rfl); (case c4 => exact rfl); k_whole; intro zg' zL' zh' zFG' zF' zN' zB' zX' zT'; (try dsimp only); (try k_lift zB'); (try k_fold))
    k_steps
    repeat (any_goals (unfold Stop; (first | (k_dflt (refine' has_call (by exact ⟨by k_asm, by k_asm, by k_asm, by k_asm, by rfl, by ktr_room, by ktr_units⟩) (by k_asm) (by ktr_room) (by ktr_units) (by assumption) (by assumption) (by assumption) (by assumption) (by assumption) (by assumption) (by assumption) (by assumption) ?_); k_whole; intro zv39 zv49 zh9 ztk9 zF9 zN9; (try dsimp only [bk] at zN9); (try k_sweep))); k_steps))
    all_goals (
      (rename News _ _ _ _ => kN9)
      (rename Fr _ _ _ _ => kF9))
    · (rename (size * 100 ≤ fG rate burst g t now) => hle)
      simp only [if_pos hle, decide_eq_true hle] at ret
      exact ret _ _ _ _ kF9 kN9
    · (rename (¬ size * 100 ≤ fG rate burst g t now) => hle)
      simp only [if_neg hle, decide_eq_false hle] at ret
      exact ret _ _ _ _ kF9 kN9)
set_option maxRecDepth 100000 in
set_option maxHeartbeats 4000000 in
theorem add_call {b d : Addr} {k1 v1 k2 v2 k3 v3 k4 v4 tx : Tok} {rate burst g t x : Int} {rest : List (Addr × Obj)}
    (C : Cal w lo me mg mb dp un cs A₀ base outer h₀ L s.heap m) (N : News h₀ L s.heap ((b, instObj 127 d) :: (d, bk w k1 v1 k2 v2 k3 v3 k4 v4 rate burst g t) :: rest))
    (hbd : b ≠ d) (hne : ∀ p ∈ rest, p.1 ≠ d) (h3 : 1 ≤ burst) (h4 : burst ≤ 70)
    (ret : ∀ v3' h' tk', Fr h₀ L h' m → News h₀ L h' ((b, instObj 127 d) :: (d, bk w k1 v1 k2 v2 k3 v3' k4 v4 rate burst (mn (g + x) (burst * 100)) t) :: rest) →
      Q .none { s with heap := h', toks := tk' }) :
    wpAny (model PySem.Challenge.rw_pc0363_01.row.prog w) (ktrTop dp un gd cn cs L a ccd cl outer) (call (.ref 117) [.ref b, .int x tx]) Q E s := by
  obtain ⟨B, F, X, T, hk, hdp, hun⟩ := C
  dsimp only [bk] at N
  w_on
  w_strict (
    (revert X; k_fill; intro X)
    refine wpAny_call ?_
    k_dflt (refine' code_def ?k1 ?k2 ?k3 ?k4 ?k5 ?kA ?kF ?kK ?k6 ?k7 ?k8 ?k9 ?kB ?_ ?c2 ?c3 ?c4 ?c5; (case kA => exact rfl); (case kF => exact rfl); (case kK => assumption); (case k1 => k_asm); (case k2 => k_asm); (case k3 => k_asm); (case k4 => k_asm); (case k5 => k_asm); (case k6 => k_is); (case k7 => k_is); (case k8 => ktr_room); (case k9 => first | exact BindsTo.of_eq rfl | exact binds_K (by k_in) rfl (by k_is) rfl rfl rfl); (case c5 => decide); (case kB => exact locs rfl); (case c2 => exact rfl); (case c3 => exact rfl); (case c4 => exact rfl); k_whole; intro zg' zL' zh' zFG' zF' zN' zB' zX' zT'; (try dsimp only); (try k_lift zB'); (try k_fold))
    k_steps
    repeat (any_goals (unfold Stop; (first | (k_dflt (refine' has_call (by exact ⟨by k_asm, by k_asm, by k_asm, by k_asm, by rfl, by ktr_room, by ktr_units⟩) (by k_asm) (by ktr_room) (by ktr_units) (by assumption) (by assumption) (by assumption) (by assumption) (by assumption) (by assumption) (by assumption) (by assumption) ?_); k_whole; intro zv39 zv49 zh9 ztk9 zF9 zN9; (try dsimp only [bk] at zN9); (try k_sweep))); k_steps))
    (rename News _ _ _ _ => kN9)
    (rename Fr _ _ _ _ => kF9)
    exact ret _ _ _ kF9 kN9)
end
/-- the three colours -/
inductive Col where
  | g | y | r
abbrev cs : Col → Str
  | .g => Str.ofString "green"
  | .y => Str.ofString "yellow"
  | .r => Str.ofString "red"
/-- the colour that a frame comes with, or none -/
abbrev bv : Option Col → Tok → Value
  | none, _ => .none
  | some c, t => .str (cs c) t
def told : Bool → Option Col → Col
  | false, _ => .g
  | true, none => .g
  | true, some c => c
theorem notin_colours {prog : Program} {w : World} {A : Around} {E : Value → Shared → Prop} {s : Shared} {h₀ : Heap} {L : Addr} {m : Str → Option Value} {K : Frag} {t : Addr} {l : List Value} {dd : Option Addr} {sl : Array (Option Value)} {n : Nat} {c : Col} {u : Tok} {Q : Value → Shared → Prop}
    (F : Fr h₀ L s.heap m) (X : K.In h₀) (hl : K.lookup t = some ⟨.type "tuple", dd, .seq l.toArray n, sl⟩) (hi : StrsAre l [Str.ofString "green", Str.ofString "yellow", Str.ofString "red"]) (h : Q (.bool false) s) :
    wpAny (model prog w) A (compareOp .NotIn (.str (cs c) u) (.ref t)) Q E s := by
  refine notin_tuple_strs (tupK (X.keeps F.keep) hl) hi ?_
  have e : (!([Str.ofString "green", Str.ofString "yellow", Str.ofString "red"].any (· == cs c))) = false := by cases c <;> decide
  rw [e]
  exact h
section
local macro_rules | `(tactic| walk_at "compareOp NotIn") => `(tactic| (k_here; k_dflt (refine' notin_colours ?F ?X ?l ?i ?_; (case F => k_asm); (case X => k_asm); (case l => k_is); (case i => kde_strs)); k_whole))
variable {w : World} {lo : List Str} {me : ExcName → Option Value} {mg mb : Str → Option Value}
    {dp un : Nat} {gd : Option (List Code)} {cn : Str} {csc : Scope} {a : Addr} {ccd : Value} {cl : List (Str × Addr)} {outer : List Env} {A₀ : Around} {base h₀ : Heap} {L : Addr} {m : Str → Option Value} {s : Shared} {Q E : Value → Shared → Prop}
set_option maxRecDepth 100000 in
set_option maxHeartbeats 4000000 in
theorem told_call {aw : Bool} {b : Option Col} {tb : Tok} {rest : List (Addr × Obj)}
    (C : Cal w lo me mg mb dp un csc A₀ base outer h₀ L s.heap m) (N : News h₀ L s.heap rest)
    (ret : ∀ t h' tk', Fr h₀ L h' m → News h₀ L h' rest → Q (.str (cs (told aw b)) t) { s with heap := h', toks := tk' }) :
    wpAny (model PySem.Challenge.rw_pc0363_01.row.prog w) (ktrTop dp un gd cn csc L a ccd cl outer) (call (.ref 139) [bv b tb, .bool aw]) Q E s := by
  obtain ⟨B, F, X, T, hk, hdp, hun⟩ := C
  w_on
  rcases aw with _ | _ <;> rcases b with _ | c <;> dsimp only [told, bv] at ret ⊢
  all_goals w_strict (
    (revert X; k_fill; intro X)
    refine wpAny_call ?_
    k_dflt (refine' code_def ?k1 ?k2 ?k3 ?k4 ?k5 ?kA ?kF ?kK ?k6 ?k7 ?k8 ?k9 ?kB ?_ ?c2 ?c3 ?c4 ?c5; (case kA => exact rfl); (case kF => exact rfl); (case kK => assumption); (case k1 => k_asm); (case k2 => k_asm); (case k3 => k_asm); (case k4 => k_asm); (case k5 => k_asm); (case k6 => k_is); (case k7 => k_is); (case k8 => ktr_room); (case k9 => first | exact BindsTo.of_eq rfl | exact binds_K (by k_in) rfl (by k_is) rfl rfl rfl); (case c5 => decide); (case kB => exact locs rfl); (case c2 => exact rfl); (case c3 => exact rfl); (case c4 => exact rfl); k_whole; intro zg' zL' zh' zFG' zF' zN' zB' zX' zT'; (try dsimp only); (try k_lift zB'); (try k_fold))
    k_steps
    (rename News _ _ _ _ => kN9)
    (rename Fr _ _ _ _ => kF9)
    exact ret _ _ _ kF9 kN9)
end
theorem news_open {h₀ h : Heap} {L d : Addr} {o : Obj} {pre post : List (Addr × Obj)} (N : News h₀ L h (pre ++ (d, o) :: post)) : News h₀ L h ((d, o) :: (pre ++ post)) := fun p hp => N p (by
  rcases List.mem_cons.mp hp with rfl | hp
  · exact List.mem_append_right _ (.head _)
  · rcases List.mem_append.mp hp with hp | hp
    · exact List.mem_append_left _ hp
    · exact List.mem_append_right _ (.tail _ hp))
theorem news_close {h₀ h : Heap} {L d : Addr} {o : Obj} {pre post : List (Addr × Obj)} (N : News h₀ L h ((d, o) :: (pre ++ post))) : News h₀ L h (pre ++ (d, o) :: post) := fun p hp => N p (by
  rcases List.mem_append.mp hp with hp | hp
  · exact .tail _ (List.mem_append_left _ hp)
  · rcases List.mem_cons.mp hp with rfl | hp
    · exact .head _
    · exact .tail _ (List.mem_append_right _ hp))
theorem news_open2 {h₀ h : Heap} {L d b : Addr} {o ob : Obj} {pre post : List (Addr × Obj)} (N : News h₀ L h (pre ++ (d, o) :: post)) (hb : (b, ob) ∈ pre ++ (d, o) :: post) : News h₀ L h ((b, ob) :: (d, o) :: (pre ++ post)) := fun p hp => by
  rcases List.mem_cons.mp hp with rfl | hp
  · exact N _ hb
  · exact news_open N p hp
theorem off_both {d : Addr} {pre post : List (Addr × Obj)} (a : ∀ p ∈ pre, p.1 ≠ d) (b : ∀ p ∈ post, p.1 ≠ d) : ∀ p ∈ pre ++ post, p.1 ≠ d := fun p hp => (List.mem_append.mp hp).elim (a p) (b p)
section
variable {w : World} {lo : List Str} {me : ExcName → Option Value} {mg mb : Str → Option Value}
    {dp un : Nat} {gd : Option (List Code)} {cn : Str} {csc : Scope} {a : Addr} {ccd : Value} {cl : List (Str × Addr)} {outer : List Env} {A₀ : Around} {base h₀ : Heap} {L : Addr} {m : Str → Option Value} {s : Shared} {Q E : Value → Shared → Prop}
theorem fill_callU {b d : Addr} {k1 v1 k2 v2 k3 v3 k4 v4 tn : Tok} {rate burst g t now : Int} {news : List (Addr × Obj)} {G : Obj → List (Addr × Obj)}
    (C : Cal w lo me mg mb dp un csc A₀ base outer h₀ L s.heap m) (N : News h₀ L s.heap news) (hb : (b, instObj 127 d) ∈ news) (U : UpdF d (bk w k1 v1 k2 v2 k3 v3 k4 v4 rate burst g t) news G)
    (hbd : b ≠ d) (h1 : 0 ≤ rate) (h2 : rate ≤ 400) (h3 : 1 ≤ burst) (h4 : burst ≤ 70)
    (ret : ∀ to v3' v4' h' tk', Fr h₀ L h' m → News h₀ L h' (G (bk w k1 v1 k2 v2 k3 v3' k4 v4' rate burst (fG rate burst g t now) (fT t now))) →
      Q (.int (fO rate burst g t now) to) { s with heap := h', toks := tk' }) :
    wpAny (model PySem.Challenge.rw_pc0363_01.row.prog w) (ktrTop dp un gd cn csc L a ccd cl outer) (call (.ref 82) [.ref b, .int now tn]) Q E s := by
  obtain ⟨pre, post, rfl, hg, o1, o2⟩ := U.split
  refine fill_call C (news_open2 N hb) hbd (off_both o1 o2) h1 h2 h3 h4 fun to v3' v4' h' tk' F' N' => ret to v3' v4' _ _ F' ?_
  rw [hg]
  exact news_close (sub_tail N')
theorem take_callU {b d : Addr} {k1 v1 k2 v2 k3 v3 k4 v4 ts tn : Tok} {rate burst g t size now : Int} {news : List (Addr × Obj)} {G : Obj → List (Addr × Obj)}
    (C : Cal w lo me mg mb dp un csc A₀ base outer h₀ L s.heap m) (N : News h₀ L s.heap news) (hb : (b, instObj 127 d) ∈ news) (U : UpdF d (bk w k1 v1 k2 v2 k3 v3 k4 v4 rate burst g t) news G)
    (hdp : dp + 40 < recursionLimit) (hun : un + 400 < cLine) (hbd : b ≠ d) (h1 : 0 ≤ rate) (h2 : rate ≤ 400) (h3 : 1 ≤ burst) (h4 : burst ≤ 70) (h5 : 0 ≤ size) (h6 : size ≤ 70)
    (ret : ∀ v3' v4' h' tk', Fr h₀ L h' m → News h₀ L h' (G (bk w k1 v1 k2 v2 k3 v3' k4 v4' rate burst (if size * 100 ≤ fG rate burst g t now then fG rate burst g t now - size * 100 else fG rate burst g t now) (fT t now))) →
      Q (.bool (decide (size * 100 ≤ fG rate burst g t now))) { s with heap := h', toks := tk' }) :
    wpAny (model PySem.Challenge.rw_pc0363_01.row.prog w) (ktrTop dp un gd cn csc L a ccd cl outer) (call (.ref 110) [.ref b, .int size ts, .int now tn]) Q E s := by
  obtain ⟨pre, post, rfl, hg, o1, o2⟩ := U.split
  refine take_call C (news_open2 N hb) hdp hun hbd (off_both o1 o2) h1 h2 h3 h4 h5 h6 fun v3' v4' h' tk' F' N' => ret v3' v4' _ _ F' ?_
  rw [hg]
  exact news_close (sub_tail N')
theorem has_callU {b d : Addr} {k1 v1 k2 v2 k3 v3 k4 v4 ts tn : Tok} {rate burst g t size now : Int} {news : List (Addr × Obj)} {G : Obj → List (Addr × Obj)}
    (C : Cal w lo me mg mb dp un csc A₀ base outer h₀ L s.heap m) (N : News h₀ L s.heap news) (hb : (b, instObj 127 d) ∈ news) (U : UpdF d (bk w k1 v1 k2 v2 k3 v3 k4 v4 rate burst g t) news G)
    (hdp : dp + 30 < recursionLimit) (hun : un + 300 < cLine) (hbd : b ≠ d) (h1 : 0 ≤ rate) (h2 : rate ≤ 400) (h3 : 1 ≤ burst) (h4 : burst ≤ 70) (h5 : 0 ≤ size) (h6 : size ≤ 70)
    (ret : ∀ v3' v4' h' tk', Fr h₀ L h' m → News h₀ L h' (G (bk w k1 v1 k2 v2 k3 v3' k4 v4' rate burst (fG rate burst g t now) (fT t now))) →
      Q (.bool (decide (size * 100 ≤ fG rate burst g t now))) { s with heap := h', toks := tk' }) :
    wpAny (model PySem.Challenge.rw_pc0363_01.row.prog w) (ktrTop dp un gd cn csc L a ccd cl outer) (call (.ref 96) [.ref b, .int size ts, .int now tn]) Q E s := by
  obtain ⟨pre, post, rfl, hg, o1, o2⟩ := U.split
  refine has_call C (news_open2 N hb) hdp hun hbd (off_both o1 o2) h1 h2 h3 h4 h5 h6 fun v3' v4' h' tk' F' N' => ret v3' v4' _ _ F' ?_
  rw [hg]
  exact news_close (sub_tail N')
theorem add_callU {b d : Addr} {k1 v1 k2 v2 k3 v3 k4 v4 tx : Tok} {rate burst g t x : Int} {news : List (Addr × Obj)} {G : Obj → List (Addr × Obj)}
    (C : Cal w lo me mg mb dp un csc A₀ base outer h₀ L s.heap m) (N : News h₀ L s.heap news) (hb : (b, instObj 127 d) ∈ news) (U : UpdF d (bk w k1 v1 k2 v2 k3 v3 k4 v4 rate burst g t) news G)
    (hbd : b ≠ d) (h3 : 1 ≤ burst) (h4 : burst ≤ 70)
    (ret : ∀ v3' h' tk', Fr h₀ L h' m → News h₀ L h' (G (bk w k1 v1 k2 v2 k3 v3' k4 v4 rate burst (mn (g + x) (burst * 100)) t)) → Q .none { s with heap := h', toks := tk' }) :
    wpAny (model PySem.Challenge.rw_pc0363_01.row.prog w) (ktrTop dp un gd cn csc L a ccd cl outer) (call (.ref 117) [.ref b, .int x tx]) Q E s := by
  obtain ⟨pre, post, rfl, hg, o1, o2⟩ := U.split
  refine add_call C (news_open2 N hb) hbd (off_both o1 o2) h3 h4 fun v3' h' tk' F' N' => ret v3' _ _ F' ?_
  rw [hg]
  exact news_close (sub_tail N')
end
/-- the fields of a SingleRate, of a TwoRate -/
abbrev sg (w : World) (k1 k2 k3 : Tok) (b1 b2 : Addr) (aw : Bool) : Obj :=
  dictOf [⟨PyData.keyHash w.params (Str.ofString "first"), .str (Str.ofString "first") k1, .ref b1⟩, ⟨PyData.keyHash w.params (Str.ofString "second"), .str (Str.ofString "second") k2, .ref b2⟩,
    ⟨PyData.keyHash w.params (Str.ofString "is_aware"), .str (Str.ofString "is_aware") k3, .bool aw⟩] 3
abbrev tw (w : World) (k1 k2 k3 : Tok) (b1 b2 : Addr) (aw : Bool) : Obj :=
  dictOf [⟨PyData.keyHash w.params (Str.ofString "first"), .str (Str.ofString "first") k1, .ref b1⟩, ⟨PyData.keyHash w.params (Str.ofString "peak"), .str (Str.ofString "peak") k2, .ref b2⟩,
    ⟨PyData.keyHash w.params (Str.ofString "is_aware"), .str (Str.ofString "is_aware") k3, .bool aw⟩] 3
/-- what `SingleRate.color` does to a frame that is told c: the colour, the two buckets -/
def R1 (c : Col) (size now r1 u1 g1 t1 r2 u2 g2 t2 : Int) (c' : Col) (g1' t1' g2' t2' : Int) : Prop :=
  let G := fG r1 u1 (fG r1 u1 g1 t1 now) (fT t1 now) now
  let T := fT (fT t1 now) now
  let S := mn (g2 + fO r1 u1 g1 t1 now) (u2 * 100)
  let S' := fG r2 u2 S t2 now
  (c = .g ∧ size * 100 ≤ G ∧ c' = .g ∧ g1' = G - size * 100 ∧ t1' = T ∧ g2' = S ∧ t2' = t2) ∨
  (c = .g ∧ ¬ size * 100 ≤ G ∧ size * 100 ≤ S' ∧ c' = .y ∧ g1' = G ∧ t1' = T ∧ g2' = S' - size * 100 ∧ t2' = fT t2 now) ∨
  (c = .g ∧ ¬ size * 100 ≤ G ∧ ¬ size * 100 ≤ S' ∧ c' = .r ∧ g1' = G ∧ t1' = T ∧ g2' = S' ∧ t2' = fT t2 now) ∨
  (c = .y ∧ size * 100 ≤ S' ∧ c' = .y ∧ g1' = fG r1 u1 g1 t1 now ∧ t1' = fT t1 now ∧ g2' = S' - size * 100 ∧ t2' = fT t2 now) ∨
  (c = .y ∧ ¬ size * 100 ≤ S' ∧ c' = .r ∧ g1' = fG r1 u1 g1 t1 now ∧ t1' = fT t1 now ∧ g2' = S' ∧ t2' = fT t2 now) ∨
  (c = .r ∧ c' = .r ∧ g1' = fG r1 u1 g1 t1 now ∧ t1' = fT t1 now ∧ g2' = S ∧ t2' = t2)
theorem R1_gg {size now r1 u1 g1 t1 r2 u2 g2 t2 : Int} (h : size * 100 ≤ fG r1 u1 (fG r1 u1 g1 t1 now) (fT t1 now) now) :
    R1 .g size now r1 u1 g1 t1 r2 u2 g2 t2 .g (if size * 100 ≤ fG r1 u1 (fG r1 u1 g1 t1 now) (fT t1 now) now then fG r1 u1 (fG r1 u1 g1 t1 now) (fT t1 now) now - size * 100 else fG r1 u1 (fG r1 u1 g1 t1 now) (fT t1 now) now) (fT (fT t1 now) now) (mn (g2 + fO r1 u1 g1 t1 now) (u2 * 100)) t2 :=
  .inl ⟨rfl, h, rfl, if_pos h, rfl, rfl, rfl⟩
theorem R1_gy {size now r1 u1 g1 t1 r2 u2 g2 t2 : Int} (h : ¬ size * 100 ≤ fG r1 u1 (fG r1 u1 g1 t1 now) (fT t1 now) now) (h' : size * 100 ≤ fG r2 u2 (mn (g2 + fO r1 u1 g1 t1 now) (u2 * 100)) t2 now) :
    R1 .g size now r1 u1 g1 t1 r2 u2 g2 t2 .y (if size * 100 ≤ fG r1 u1 (fG r1 u1 g1 t1 now) (fT t1 now) now then fG r1 u1 (fG r1 u1 g1 t1 now) (fT t1 now) now - size * 100 else fG r1 u1 (fG r1 u1 g1 t1 now) (fT t1 now) now) (fT (fT t1 now) now)
      (if size * 100 ≤ fG r2 u2 (mn (g2 + fO r1 u1 g1 t1 now) (u2 * 100)) t2 now then fG r2 u2 (mn (g2 + fO r1 u1 g1 t1 now) (u2 * 100)) t2 now - size * 100 else fG r2 u2 (mn (g2 + fO r1 u1 g1 t1 now) (u2 * 100)) t2 now) (fT t2 now) :=
  .inr (.inl ⟨rfl, h, h', rfl, if_neg h, rfl, if_pos h', rfl⟩)
theorem R1_gr {size now r1 u1 g1 t1 r2 u2 g2 t2 : Int} (h : ¬ size * 100 ≤ fG r1 u1 (fG r1 u1 g1 t1 now) (fT t1 now) now) (h' : ¬ size * 100 ≤ fG r2 u2 (mn (g2 + fO r1 u1 g1 t1 now) (u2 * 100)) t2 now) :
    R1 .g size now r1 u1 g1 t1 r2 u2 g2 t2 .r (if size * 100 ≤ fG r1 u1 (fG r1 u1 g1 t1 now) (fT t1 now) now then fG r1 u1 (fG r1 u1 g1 t1 now) (fT t1 now) now - size * 100 else fG r1 u1 (fG r1 u1 g1 t1 now) (fT t1 now) now) (fT (fT t1 now) now)
      (if size * 100 ≤ fG r2 u2 (mn (g2 + fO r1 u1 g1 t1 now) (u2 * 100)) t2 now then fG r2 u2 (mn (g2 + fO r1 u1 g1 t1 now) (u2 * 100)) t2 now - size * 100 else fG r2 u2 (mn (g2 + fO r1 u1 g1 t1 now) (u2 * 100)) t2 now) (fT t2 now) :=
  .inr (.inr (.inl ⟨rfl, h, h', rfl, if_neg h, rfl, if_neg h', rfl⟩))
theorem R1_yy {size now r1 u1 g1 t1 r2 u2 g2 t2 : Int} (h' : size * 100 ≤ fG r2 u2 (mn (g2 + fO r1 u1 g1 t1 now) (u2 * 100)) t2 now) :
    R1 .y size now r1 u1 g1 t1 r2 u2 g2 t2 .y (fG r1 u1 g1 t1 now) (fT t1 now)
      (if size * 100 ≤ fG r2 u2 (mn (g2 + fO r1 u1 g1 t1 now) (u2 * 100)) t2 now then fG r2 u2 (mn (g2 + fO r1 u1 g1 t1 now) (u2 * 100)) t2 now - size * 100 else fG r2 u2 (mn (g2 + fO r1 u1 g1 t1 now) (u2 * 100)) t2 now) (fT t2 now) :=
  .inr (.inr (.inr (.inl ⟨rfl, h', rfl, rfl, rfl, if_pos h', rfl⟩)))
theorem R1_yr {size now r1 u1 g1 t1 r2 u2 g2 t2 : Int} (h' : ¬ size * 100 ≤ fG r2 u2 (mn (g2 + fO r1 u1 g1 t1 now) (u2 * 100)) t2 now) :
    R1 .y size now r1 u1 g1 t1 r2 u2 g2 t2 .r (fG r1 u1 g1 t1 now) (fT t1 now)
      (if size * 100 ≤ fG r2 u2 (mn (g2 + fO r1 u1 g1 t1 now) (u2 * 100)) t2 now then fG r2 u2 (mn (g2 + fO r1 u1 g1 t1 now) (u2 * 100)) t2 now - size * 100 else fG r2 u2 (mn (g2 + fO r1 u1 g1 t1 now) (u2 * 100)) t2 now) (fT t2 now) :=
  .inr (.inr (.inr (.inr (.inl ⟨rfl, h', rfl, rfl, rfl, if_neg h', rfl⟩))))
theorem R1_rr {size now r1 u1 g1 t1 r2 u2 g2 t2 : Int} :
    R1 .r size now r1 u1 g1 t1 r2 u2 g2 t2 .r (fG r1 u1 g1 t1 now) (fT t1 now) (mn (g2 + fO r1 u1 g1 t1 now) (u2 * 100)) t2 :=
  .inr (.inr (.inr (.inr (.inr ⟨rfl, rfl, rfl, rfl, rfl, rfl⟩))))
section
variable {w : World} {lo : List Str} {me : ExcName → Option Value} {mg mb : Str → Option Value}
    {dp un : Nat} {gd : Option (List Code)} {cn : Str} {csc : Scope} {a : Addr} {ccd : Value} {cl : List (Str × Addr)} {outer : List Env} {A₀ : Around} {base h₀ : Heap} {L : Addr} {m : Str → Option Value} {s : Shared} {Q E : Value → Shared → Prop}
local macro_rules | `(tactic| walk_at "mine pad") => `(tactic| fail "pad")
local macro_rules | `(tactic| walk_at "call ref") => `(tactic| (k_here; refine stop ?_))
set_option maxRecDepth 100000 in
set_option maxHeartbeats 8000000 in
/-- `SingleRate.color(size, now, before)` -/
theorem color1_call {x dx b1 d1 b2 d2 : Addr} {k1 k2 k3 k11 v11 k12 v12 k13 v13 k14 v14 k21 v21 k22 v22 k23 v23 k24 v24 ts tn tb : Tok} {aw : Bool} {b : Option Col} {c : Col} {r1 u1 g1 t1 r2 u2 g2 t2 size now : Int} {rest : List (Addr × Obj)}
    (C : Cal w lo me mg mb dp un csc A₀ base outer h₀ L s.heap m)
    (N : News h₀ L s.heap ((x, instObj 165 dx) :: (dx, sg w k1 k2 k3 b1 b2 aw) :: (b1, instObj 127 d1) :: (d1, bk w k11 v11 k12 v12 k13 v13 k14 v14 r1 u1 g1 t1) :: (b2, instObj 127 d2) :: (d2, bk w k21 v21 k22 v22 k23 v23 k24 v24 r2 u2 g2 t2) :: rest))
    (hc : told aw b = c) (hdp : dp + 50 < recursionLimit) (hun : un + 500 < cLine)
    (n1 : ∀ p ∈ rest, p.1 ≠ d1) (n2 : ∀ p ∈ rest, p.1 ≠ d2) (e1 : x ≠ d1) (e2 : dx ≠ d1) (e3 : b1 ≠ d1) (e4 : b2 ≠ d1) (e5 : x ≠ d2) (e6 : dx ≠ d2) (e7 : b1 ≠ d2) (e8 : b2 ≠ d2) (e9 : d1 ≠ d2)
    (h1 : 0 ≤ r1) (h2 : r1 ≤ 400) (h3 : 1 ≤ u1) (h4 : u1 ≤ 70) (h5 : 0 ≤ r2) (h6 : r2 ≤ 400) (h7 : 1 ≤ u2) (h8 : u2 ≤ 70) (h9 : 0 ≤ size) (h10 : size ≤ 70)
    (ret : ∀ c' t v13' v14' v23' v24' g1' t1' g2' t2' h' tk', R1 c size now r1 u1 g1 t1 r2 u2 g2 t2 c' g1' t1' g2' t2' → Fr h₀ L h' m →
      News h₀ L h' ((x, instObj 165 dx) :: (dx, sg w k1 k2 k3 b1 b2 aw) :: (b1, instObj 127 d1) :: (d1, bk w k11 v11 k12 v12 k13 v13' k14 v14' r1 u1 g1' t1') :: (b2, instObj 127 d2) :: (d2, bk w k21 v21 k22 v22 k23 v23' k24 v24' r2 u2 g2' t2') :: rest) →
      Q (.str (cs c') t) { s with heap := h', toks := tk' }) :
    wpAny (model PySem.Challenge.rw_pc0363_01.row.prog w) (ktrTop dp un gd cn csc L a ccd cl outer) (call (.ref 162) [.ref x, .int size ts, .int now tn, bv b tb]) Q E s := by
  obtain ⟨B, F, X, T, hk, _, _⟩ := C
  dsimp only [bk, sg] at N
  w_on
  cases c
  all_goals w_strict (
    (revert X; k_fill; intro X)
    refine wpAny_call ?_
    k_dflt (refine' code_def ?k1 ?k2 ?k3 ?k4 ?k5 ?kA ?kF ?kK ?k6 ?k7 ?k8 ?k9 ?kB ?_ ?c2 ?c3 ?c4 ?c5; (case kA => exact rfl); (case kF => exact rfl); (case kK => assumption); (case k1 => k_asm); (case k2 => k_asm); (case k3 => k_asm); (case k4 => k_asm); (case k5 => k_asm); (case k6 => k_is); (case k7 => k_is); (case k8 => ktr_room); (case k9 => first | exact BindsTo.of_eq rfl | exact binds_K (by k_in) rfl (by k_is) rfl rfl rfl); (case c5 => decide); (case kB => exact locs rfl); (case c2 => exact rfl); (case c3 => exact rfl); (case c4 => exact rfl); k_whole; intro zg' zL' zh' zFG' zF' zN' zB' zX' zT'; (try dsimp only); (try k_lift zB'); (try k_fold))
    k_steps
    repeat (any_goals (unfold Stop; (first | (k_dflt (refine' told_call (by exact ⟨by k_asm, by k_asm, by k_asm, by k_asm, by rfl, by ktr_room, by ktr_units⟩) (by k_asm) ?_); k_whole; intro zt9 zh9 ztk9 zF9 zN9; (rename told _ _ = _ => zhc9); (try simp only [zhc9]); (try dsimp only [cs]); (try k_sweep)) | (k_dflt (refine' take_callU (by exact ⟨by k_asm, by k_asm, by k_asm, by k_asm, by rfl, by ktr_room, by ktr_units⟩) (by k_asm) (by k_mem) (by k_updF) (by ktr_room) (by ktr_units) (by assumption) (by assumption) (by assumption) (by assumption) (by assumption) (by assumption) (by assumption) ?_); k_whole; intro zv39 zv49 zh9 ztk9 zF9 zN9; (try dsimp only [bk] at zN9); (try k_sweep)) | (k_dflt (refine' add_callU (by exact ⟨by k_asm, by k_asm, by k_asm, by k_asm, by rfl, by ktr_room, by ktr_units⟩) (by k_asm) (by k_mem) (by k_updF) (by assumption) (by assumption) (by assumption) ?_); k_whole; intro zv39 zh9 ztk9 zF9 zN9; (try dsimp only [bk] at zN9); (try k_sweep)) | (k_dflt (refine' fill_callU (by exact ⟨by k_asm, by k_asm, by k_asm, by k_asm, by rfl, by ktr_room, by ktr_units⟩) (by k_asm) (by k_mem) (by k_updF) (by assumption) (by assumption) (by assumption) (by assumption) (by assumption) ?_); k_whole; intro zto9 zv39 zv49 zh9 ztk9 zF9 zN9; (try dsimp only [bk] at zN9); (try k_sweep))); k_steps))
    all_goals (
      (rename News _ _ _ _ => kN9)
      (rename Fr _ _ _ _ => kF9)
      first
      | exact ret .g _ _ _ _ _ _ _ _ _ _ _ (R1_gg (by assumption)) kF9 kN9
      | exact ret .y _ _ _ _ _ _ _ _ _ _ _ (R1_gy (by assumption) (by assumption)) kF9 kN9
      | exact ret .r _ _ _ _ _ _ _ _ _ _ _ (R1_gr (by assumption) (by assumption)) kF9 kN9
      | exact ret .y _ _ _ _ _ _ _ _ _ _ _ (R1_yy (by assumption)) kF9 kN9
      | exact ret .r _ _ _ _ _ _ _ _ _ _ _ (R1_yr (by assumption)) kF9 kN9
      | exact ret .r _ _ _ _ _ _ _ _ _ _ _ R1_rr kF9 kN9))
/-- six objects of a policer stand apart from each other and from the rest -/
structure Six (x dx b1 d1 b2 d2 : Addr) (rest : List (Addr × Obj)) : Prop where
  n1 : ∀ p ∈ rest, p.1 ≠ d1
  n2 : ∀ p ∈ rest, p.1 ≠ d2
  e1 : x ≠ d1
  e2 : dx ≠ d1
  e3 : b1 ≠ d1
  e4 : b2 ≠ d1
  e5 : x ≠ d2
  e6 : dx ≠ d2
  e7 : b1 ≠ d2
  e8 : b2 ≠ d2
  e9 : d1 ≠ d2
set_option maxRecDepth 100000 in
set_option maxHeartbeats 4000000 in
/-- `SingleRate.color(size, now)`, not aware -/
theorem color1_call0 {x dx b1 d1 b2 d2 : Addr} {k1 k2 k3 k11 v11 k12 v12 k13 v13 k14 v14 k21 v21 k22 v22 k23 v23 k24 v24 ts tn : Tok} {r1 u1 g1 t1 r2 u2 g2 t2 size now : Int} {rest : List (Addr × Obj)}
    (C : Cal w lo me mg mb dp un csc A₀ base outer h₀ L s.heap m)
    (N : News h₀ L s.heap ((x, instObj 165 dx) :: (dx, sg w k1 k2 k3 b1 b2 false) :: (b1, instObj 127 d1) :: (d1, bk w k11 v11 k12 v12 k13 v13 k14 v14 r1 u1 g1 t1) :: (b2, instObj 127 d2) :: (d2, bk w k21 v21 k22 v22 k23 v23 k24 v24 r2 u2 g2 t2) :: rest))
    (hdp : dp + 50 < recursionLimit) (hun : un + 500 < cLine) (S : Six x dx b1 d1 b2 d2 rest)
    (h1 : 0 ≤ r1) (h2 : r1 ≤ 400) (h3 : 1 ≤ u1) (h4 : u1 ≤ 70) (h5 : 0 ≤ r2) (h6 : r2 ≤ 400) (h7 : 1 ≤ u2) (h8 : u2 ≤ 70) (h9 : 0 ≤ size) (h10 : size ≤ 70)
    (ret : ∀ c' t v13' v14' v23' v24' g1' t1' g2' t2' h' tk', R1 .g size now r1 u1 g1 t1 r2 u2 g2 t2 c' g1' t1' g2' t2' → Fr h₀ L h' m →
      News h₀ L h' ((x, instObj 165 dx) :: (dx, sg w k1 k2 k3 b1 b2 false) :: (b1, instObj 127 d1) :: (d1, bk w k11 v11 k12 v12 k13 v13' k14 v14' r1 u1 g1' t1') :: (b2, instObj 127 d2) :: (d2, bk w k21 v21 k22 v22 k23 v23' k24 v24' r2 u2 g2' t2') :: rest) →
      Q (.str (cs c') t) { s with heap := h', toks := tk' }) :
    wpAny (model PySem.Challenge.rw_pc0363_01.row.prog w) (ktrTop dp un gd cn csc L a ccd cl outer) (call (.ref 162) [.ref x, .int size ts, .int now tn]) Q E s := by
  obtain ⟨B, F, X, T, hk, _, _⟩ := C
  obtain ⟨n1, n2, e1, e2, e3, e4, e5, e6, e7, e8, e9⟩ := S
  dsimp only [bk, sg] at N
  have hc : told false none = .g := rfl
  w_on
  w_strict (
    (revert X; k_fill; intro X)
    refine wpAny_call ?_
    k_dflt (refine' code_def ?k1 ?k2 ?k3 ?k4 ?k5 ?kA ?kF ?kK ?k6 ?k7 ?k8 ?k9 ?kB ?_ ?c2 ?c3 ?c4 ?c5; (case kA => exact rfl); (case kF => exact rfl); (case kK => assumption); (case k1 => k_asm); (case k2 => k_asm); (case k3 => k_asm); (case k4 => k_asm); (case k5 => k_asm); (case k6 => k_is); (case k7 => k_is); (case k8 => ktr_room); (case k9 => first | exact BindsTo.of_eq rfl | exact binds_K (by k_in) rfl (by k_is) rfl rfl rfl); (case c5 => decide); (case kB => exact locs rfl); (case c2 => exact rfl); (case c3 => exact rfl); (case c4 => exact rfl); k_whole; intro zg' zL' zh' zFG' zF' zN' zB' zX' zT'; (try dsimp only); (try k_lift zB'); (try k_fold))
    k_steps
    repeat (any_goals (unfold Stop; (first | (k_dflt (refine' told_call (b := none) (tb := 0) (aw := false) (by exact ⟨by k_asm, by k_asm, by k_asm, by k_asm, by rfl, by ktr_room, by ktr_units⟩) (by k_asm) ?_); k_whole; intro zt9 zh9 ztk9 zF9 zN9; (rename told _ _ = _ => zhc9); (try simp only [zhc9]); (try dsimp only [cs]); (try k_sweep)) | (k_dflt (refine' take_callU (by exact ⟨by k_asm, by k_asm, by k_asm, by k_asm, by rfl, by ktr_room, by ktr_units⟩) (by k_asm) (by k_mem) (by k_updF) (by ktr_room) (by ktr_units) (by assumption) (by assumption) (by assumption) (by assumption) (by assumption) (by assumption) (by assumption) ?_); k_whole; intro zv39 zv49 zh9 ztk9 zF9 zN9; (try dsimp only [bk] at zN9); (try k_sweep)) | (k_dflt (refine' add_callU (by exact ⟨by k_asm, by k_asm, by k_asm, by k_asm, by rfl, by ktr_room, by ktr_units⟩) (by k_asm) (by k_mem) (by k_updF) (by assumption) (by assumption) (by assumption) ?_); k_whole; intro zv39 zh9 ztk9 zF9 zN9; (try dsimp only [bk] at zN9); (try k_sweep)) | (k_dflt (refine' fill_callU (by exact ⟨by k_asm, by k_asm, by k_asm, by k_asm, by rfl, by ktr_room, by ktr_units⟩) (by k_asm) (by k_mem) (by k_updF) (by assumption) (by assumption) (by assumption) (by assumption) (by assumption) ?_); k_whole; intro zto9 zv39 zv49 zh9 ztk9 zF9 zN9; (try dsimp only [bk] at zN9); (try k_sweep))); k_steps))
    all_goals (
      (rename News _ _ _ _ => kN9)
      (rename Fr _ _ _ _ => kF9)
      first
      | exact ret .g _ _ _ _ _ _ _ _ _ _ _ (R1_gg (by assumption)) kF9 kN9
      | exact ret .y _ _ _ _ _ _ _ _ _ _ _ (R1_gy (by assumption) (by assumption)) kF9 kN9
      | exact ret .r _ _ _ _ _ _ _ _ _ _ _ (R1_gr (by assumption) (by assumption)) kF9 kN9))
end
/-- what `TwoRate.color` does to a frame that is told c -/
def R2 (c : Col) (size now r1 u1 g1 t1 r2 u2 g2 t2 : Int) (c' : Col) (g1' t1' g2' t2' : Int) : Prop :=
  let P := fG r2 u2 g2 t2 now
  let G := fG r1 u1 g1 t1 now
  (c = .r ∧ c' = .r ∧ g1' = g1 ∧ t1' = t1 ∧ g2' = g2 ∧ t2' = t2) ∨
  ((c = .g ∨ c = .y) ∧ ¬ size * 100 ≤ P ∧ c' = .r ∧ g1' = g1 ∧ t1' = t1 ∧ g2' = P ∧ t2' = fT t2 now) ∨
  (c = .y ∧ size * 100 ≤ P ∧ c' = .y ∧ g1' = g1 ∧ t1' = t1 ∧ g2' = P - size * 100 ∧ t2' = fT t2 now) ∨
  (c = .g ∧ size * 100 ≤ P ∧ size * 100 ≤ G ∧ c' = .g ∧ g1' = G - size * 100 ∧ t1' = fT t1 now ∧ g2' = P - size * 100 ∧ t2' = fT t2 now) ∨
  (c = .g ∧ size * 100 ≤ P ∧ ¬ size * 100 ≤ G ∧ c' = .y ∧ g1' = G ∧ t1' = fT t1 now ∧ g2' = P - size * 100 ∧ t2' = fT t2 now)
section
variable {size now r1 u1 g1 t1 r2 u2 g2 t2 : Int}
theorem R2_rr : R2 .r size now r1 u1 g1 t1 r2 u2 g2 t2 .r g1 t1 g2 t2 := .inl ⟨rfl, rfl, rfl, rfl, rfl, rfl⟩
theorem R2_gr (h : ¬ size * 100 ≤ fG r2 u2 g2 t2 now) : R2 .g size now r1 u1 g1 t1 r2 u2 g2 t2 .r g1 t1 (fG r2 u2 g2 t2 now) (fT t2 now) := .inr (.inl ⟨.inl rfl, h, rfl, rfl, rfl, rfl, rfl⟩)
theorem R2_yr (h : ¬ size * 100 ≤ fG r2 u2 g2 t2 now) : R2 .y size now r1 u1 g1 t1 r2 u2 g2 t2 .r g1 t1 (fG r2 u2 g2 t2 now) (fT t2 now) := .inr (.inl ⟨.inr rfl, h, rfl, rfl, rfl, rfl, rfl⟩)
theorem R2_yy (h : size * 100 ≤ fG r2 u2 g2 t2 now) : R2 .y size now r1 u1 g1 t1 r2 u2 g2 t2 .y g1 t1 (fG r2 u2 g2 t2 now - size * 100) (fT t2 now) := .inr (.inr (.inl ⟨rfl, h, rfl, rfl, rfl, rfl, rfl⟩))
theorem R2_gg (h : size * 100 ≤ fG r2 u2 g2 t2 now) (h' : size * 100 ≤ fG r1 u1 g1 t1 now) :
    R2 .g size now r1 u1 g1 t1 r2 u2 g2 t2 .g (if size * 100 ≤ fG r1 u1 g1 t1 now then fG r1 u1 g1 t1 now - size * 100 else fG r1 u1 g1 t1 now) (fT t1 now) (fG r2 u2 g2 t2 now - size * 100) (fT t2 now) := .inr (.inr (.inr (.inl ⟨rfl, h, h', rfl, if_pos h', rfl, rfl, rfl⟩)))
theorem R2_gy (h : size * 100 ≤ fG r2 u2 g2 t2 now) (h' : ¬ size * 100 ≤ fG r1 u1 g1 t1 now) :
    R2 .g size now r1 u1 g1 t1 r2 u2 g2 t2 .y (if size * 100 ≤ fG r1 u1 g1 t1 now then fG r1 u1 g1 t1 now - size * 100 else fG r1 u1 g1 t1 now) (fT t1 now) (fG r2 u2 g2 t2 now - size * 100) (fT t2 now) := .inr (.inr (.inr (.inr ⟨rfl, h, h', rfl, if_neg h', rfl, rfl, rfl⟩)))
end
section
variable {w : World} {lo : List Str} {me : ExcName → Option Value} {mg mb : Str → Option Value}
    {dp un : Nat} {gd : Option (List Code)} {cn : Str} {csc : Scope} {a : Addr} {ccd : Value} {cl : List (Str × Addr)} {outer : List Env} {A₀ : Around} {base h₀ : Heap} {L : Addr} {m : Str → Option Value} {s : Shared} {Q E : Value → Shared → Prop}
local macro_rules | `(tactic| walk_at "call ref") => `(tactic| (k_here; (fail_if_success with_reducible show wpAny _ _ (call (Value.ref 103) _) _ _ _); refine stop ?_))
set_option maxRecDepth 100000 in
set_option maxHeartbeats 8000000 in
/-- `TwoRate.color(size, now, before)` -/
theorem color2_call {x dx b1 d1 b2 d2 : Addr} {k1 k2 k3 k11 v11 k12 v12 k13 v13 k14 v14 k21 v21 k22 v22 k23 v23 k24 v24 ts tn tb : Tok} {aw : Bool} {b : Option Col} {c : Col} {r1 u1 g1 t1 r2 u2 g2 t2 size now : Int} {rest : List (Addr × Obj)}
    (C : Cal w lo me mg mb dp un csc A₀ base outer h₀ L s.heap m)
    (N : News h₀ L s.heap ((x, instObj 195 dx) :: (dx, tw w k1 k2 k3 b1 b2 aw) :: (b1, instObj 127 d1) :: (d1, bk w k11 v11 k12 v12 k13 v13 k14 v14 r1 u1 g1 t1) :: (b2, instObj 127 d2) :: (d2, bk w k21 v21 k22 v22 k23 v23 k24 v24 r2 u2 g2 t2) :: rest))
    (hc : told aw b = c) (hdp : dp + 50 < recursionLimit) (hun : un + 500 < cLine)
    (n1 : ∀ p ∈ rest, p.1 ≠ d1) (n2 : ∀ p ∈ rest, p.1 ≠ d2) (e1 : x ≠ d1) (e2 : dx ≠ d1) (e3 : b1 ≠ d1) (e4 : b2 ≠ d1) (e5 : x ≠ d2) (e6 : dx ≠ d2) (e7 : b1 ≠ d2) (e8 : b2 ≠ d2) (e9 : d1 ≠ d2)
    (h1 : 0 ≤ r1) (h2 : r1 ≤ 400) (h3 : 1 ≤ u1) (h4 : u1 ≤ 70) (h5 : 0 ≤ r2) (h6 : r2 ≤ 400) (h7 : 1 ≤ u2) (h8 : u2 ≤ 70) (h9 : 0 ≤ size) (h10 : size ≤ 70)
    (ret : ∀ c' t v13' v14' v23' v24' g1' t1' g2' t2' h' tk', R2 c size now r1 u1 g1 t1 r2 u2 g2 t2 c' g1' t1' g2' t2' → Fr h₀ L h' m →
      News h₀ L h' ((x, instObj 195 dx) :: (dx, tw w k1 k2 k3 b1 b2 aw) :: (b1, instObj 127 d1) :: (d1, bk w k11 v11 k12 v12 k13 v13' k14 v14' r1 u1 g1' t1') :: (b2, instObj 127 d2) :: (d2, bk w k21 v21 k22 v22 k23 v23' k24 v24' r2 u2 g2' t2') :: rest) →
      Q (.str (cs c') t) { s with heap := h', toks := tk' }) :
    wpAny (model PySem.Challenge.rw_pc0363_01.row.prog w) (ktrTop dp un gd cn csc L a ccd cl outer) (call (.ref 192) [.ref x, .int size ts, .int now tn, bv b tb]) Q E s := by
  obtain ⟨B, F, X, T, hk, _, _⟩ := C
  dsimp only [bk, tw] at N
  w_on
  cases c
  all_goals w_strict (
    (revert X; k_fill; intro X)
    refine wpAny_call ?_
    k_dflt (refine' code_def ?k1 ?k2 ?k3 ?k4 ?k5 ?kA ?kF ?kK ?k6 ?k7 ?k8 ?k9 ?kB ?_ ?c2 ?c3 ?c4 ?c5; (case kA => exact rfl); (case kF => exact rfl); (case kK => assumption); (case k1 => k_asm); (case k2 => k_asm); (case k3 => k_asm); (case k4 => k_asm); (case k5 => k_asm); (case k6 => k_is); (case k7 => k_is); (case k8 => ktr_room); (case k9 => first | exact BindsTo.of_eq rfl | exact binds_K (by k_in) rfl (by k_is) rfl rfl rfl); (case c5 => decide); (case kB => exact locs rfl); (case c2 => exact rfl); (case c3 => exact rfl); (case c4 => exact rfl); k_whole; intro zg' zL' zh' zFG' zF' zN' zB' zX' zT'; (try dsimp only); (try k_lift zB'); (try k_fold))
    k_steps
    repeat (any_goals (unfold Stop; (first | (k_dflt (refine' told_call (by exact ⟨by k_asm, by k_asm, by k_asm, by k_asm, by rfl, by ktr_room, by ktr_units⟩) (by k_asm) ?_); k_whole; intro zt9 zh9 ztk9 zF9 zN9; (rename told _ _ = _ => zhc9); (try simp only [zhc9]); (try dsimp only [cs]); (try k_sweep)) | (k_dflt (refine' take_callU (by exact ⟨by k_asm, by k_asm, by k_asm, by k_asm, by rfl, by ktr_room, by ktr_units⟩) (by k_asm) (by k_mem) (by k_updF) (by ktr_room) (by ktr_units) (by assumption) (by assumption) (by assumption) (by assumption) (by assumption) (by assumption) (by assumption) ?_); k_whole; intro zv39 zv49 zh9 ztk9 zF9 zN9; (try dsimp only [bk] at zN9); (try k_sweep)) | (k_dflt (refine' has_callU (by exact ⟨by k_asm, by k_asm, by k_asm, by k_asm, by rfl, by ktr_room, by ktr_units⟩) (by k_asm) (by k_mem) (by k_updF) (by ktr_room) (by ktr_units) (by assumption) (by assumption) (by assumption) (by assumption) (by assumption) (by assumption) (by assumption) ?_); k_whole; intro zv39 zv49 zh9 ztk9 zF9 zN9; (try dsimp only [bk] at zN9); (try k_sweep)) | (k_dflt (refine' fill_callU (by exact ⟨by k_asm, by k_asm, by k_asm, by k_asm, by rfl, by ktr_room, by ktr_units⟩) (by k_asm) (by k_mem) (by k_updF) (by assumption) (by assumption) (by assumption) (by assumption) (by assumption) ?_); k_whole; intro zto9 zv39 zv49 zh9 ztk9 zF9 zN9; (try dsimp only [bk] at zN9); (try k_sweep))); k_steps))
    all_goals (
      (rename News _ _ _ _ => kN9)
      (rename Fr _ _ _ _ => kF9)
      first
      | exact ret .r _ _ _ _ _ _ _ _ _ _ _ R2_rr kF9 kN9
      | exact ret .r _ _ _ _ _ _ _ _ _ _ _ (R2_gr (by assumption)) kF9 kN9
      | exact ret .r _ _ _ _ _ _ _ _ _ _ _ (R2_yr (by assumption)) kF9 kN9
      | exact ret .y _ _ _ _ _ _ _ _ _ _ _ (R2_yy (by assumption)) kF9 kN9
      | exact ret .g _ _ _ _ _ _ _ _ _ _ _ (R2_gg (by assumption) (by assumption)) kF9 kN9
      | exact ret .y _ _ _ _ _ _ _ _ _ _ _ (R2_gy (by assumption) (by assumption)) kF9 kN9))
end
/-- what the law's own `told` does: one rate, two rates -/
def T1 (c : Col) (size f s : Int) (c' : Col) (f' s' : Int) : Prop :=
  (c = .g ∧ 100 * size ≤ f ∧ c' = .g ∧ f' = f - 100 * size ∧ s' = s) ∨
  (c = .g ∧ ¬ 100 * size ≤ f ∧ 100 * size ≤ s ∧ c' = .y ∧ f' = f ∧ s' = s - 100 * size) ∨
  (c = .g ∧ ¬ 100 * size ≤ f ∧ ¬ 100 * size ≤ s ∧ c' = .r ∧ f' = f ∧ s' = s) ∨
  (c = .y ∧ 100 * size ≤ s ∧ c' = .y ∧ f' = f ∧ s' = s - 100 * size) ∨
  (c = .y ∧ ¬ 100 * size ≤ s ∧ c' = .r ∧ f' = f ∧ s' = s) ∨
  (c = .r ∧ c' = .r ∧ f' = f ∧ s' = s)
def T2 (c : Col) (size f s : Int) (c' : Col) (f' s' : Int) : Prop :=
  (c = .r ∧ c' = .r ∧ f' = f ∧ s' = s) ∨
  ((c = .g ∨ c = .y) ∧ s < 100 * size ∧ c' = .r ∧ f' = f ∧ s' = s) ∨
  (c = .y ∧ ¬ s < 100 * size ∧ c' = .y ∧ f' = f ∧ s' = s - 100 * size) ∨
  (c = .g ∧ ¬ s < 100 * size ∧ f < 100 * size ∧ c' = .y ∧ f' = f ∧ s' = s - 100 * size) ∨
  (c = .g ∧ ¬ s < 100 * size ∧ ¬ f < 100 * size ∧ c' = .g ∧ f' = f - 100 * size ∧ s' = s - 100 * size)
section
variable {w : World} {lo : List Str} {me : ExcName → Option Value} {mg mb : Str → Option Value}
    {dp un : Nat} {gd : Option (List Code)} {cn : Str} {csc : Scope} {a : Addr} {ccd : Value} {cl : List (Str × Addr)} {outer : List Env} {A₀ : Around} {base h₀ : Heap} {L : Addr} {m : Str → Option Value} {s : Shared} {Q E : Value → Shared → Prop}
set_option maxRecDepth 100000 in
set_option maxHeartbeats 4000000 in
theorem tell1_call {d : Addr} {o : Obj} {rate burst peak other f sec size : Int} {ts tb : Tok} {c : Col} {rest : List (Addr × Obj)}
    (C : Cal w lo me mg mb dp un csc A₀ base outer h₀ L s.heap m) (N : News h₀ L s.heap ((d, o) :: rest))
    (hne : ∀ p ∈ rest, p.1 ≠ d) (hs : (d == sysModules) = false) (hD : DI w o (OwnD rate burst peak other f sec)) (h5 : 0 ≤ size) (h6 : size ≤ 70)
    (ret : ∀ c' t o' f' sec' h' tk', T1 c size f sec c' f' sec' → DI w o' (OwnD rate burst peak other f' sec') →
      Fr h₀ L h' m → News h₀ L h' ((d, o') :: rest) → Q (.str (cs c') t) { s with heap := h', toks := tk' }) :
    wpAny (model PySem.Challenge.rw_pc0363_01.row.prog w) (ktrTop dp un gd cn csc L a ccd cl outer) (call (.ref 241) [.ref d, .int size ts, .str (cs c) tb]) Q E s := by
  obtain ⟨B, F, X, T, hk, hdp, hun⟩ := C
  obtain ⟨kvs, hd, hf⟩ := hD
  w_on
  cases c
  all_goals dsimp only [cs]
  all_goals w_strict (
    (revert X; k_fill; intro X)
    refine wpAny_call ?_
    k_dflt (refine' code_def ?k1 ?k2 ?k3 ?k4 ?k5 ?kA ?kF ?kK ?k6 ?k7 ?k8 ?k9 ?kB ?_ ?c2 ?c3 ?c4 ?c5; (case kA => exact rfl); (case kF => exact rfl); (case kK => assumption); (case k1 => k_asm); (case k2 => k_asm); (case k3 => k_asm); (case k4 => k_asm); (case k5 => k_asm); (case k6 => k_is); (case k7 => k_is); (case k8 => ktr_room); (case k9 => first | exact BindsTo.of_eq rfl | exact binds_K (by k_in) rfl (by k_is) rfl rfl rfl); (case c5 => decide); (case kB => exact locs rfl); (case c2 => exact rfl); (case c3 => exact rfl); (case c4 => exact rfl); k_whole; intro zg' zL' zh' zFG' zF' zN' zB' zX' zT'; (try dsimp only); (try k_lift zB'); (try k_fold))
    k_steps
    all_goals (
      (rename News _ _ _ _ => kN9)
      (rename Fr _ _ _ _ => kF9)
      (rename Obj.IsDictOf _ _ _ => hd9)
      (rename PyProof.V.FlatPairs _ _ _ => hf9)
      first
      | exact ret .g _ _ (f - 100 * size) sec _ _ (.inl ⟨rfl, by assumption, rfl, rfl, rfl⟩) ⟨_, hd9, hf9⟩ kF9 kN9
      | exact ret .y _ _ f (sec - 100 * size) _ _ (.inr (.inl ⟨rfl, by assumption, by assumption, rfl, rfl, rfl⟩)) ⟨_, hd9, hf9⟩ kF9 kN9
      | exact ret .r _ _ f sec _ _ (.inr (.inr (.inl ⟨rfl, by assumption, by assumption, rfl, rfl, rfl⟩))) ⟨_, hd9, hf9⟩ kF9 kN9
      | exact ret .y _ _ f (sec - 100 * size) _ _ (.inr (.inr (.inr (.inl ⟨rfl, by assumption, rfl, rfl, rfl⟩)))) ⟨_, hd9, hf9⟩ kF9 kN9
      | exact ret .r _ _ f sec _ _ (.inr (.inr (.inr (.inr (.inl ⟨rfl, by assumption, rfl, rfl, rfl⟩))))) ⟨_, hd9, hf9⟩ kF9 kN9
      | exact ret .r _ _ f sec _ _ (.inr (.inr (.inr (.inr (.inr ⟨rfl, rfl, rfl, rfl⟩))))) ⟨_, hd9, hf9⟩ kF9 kN9))
set_option maxRecDepth 100000 in
set_option maxHeartbeats 4000000 in
theorem tell2_call {d : Addr} {o : Obj} {rate burst peak other f sec size : Int} {ts tb : Tok} {c : Col} {rest : List (Addr × Obj)}
    (C : Cal w lo me mg mb dp un csc A₀ base outer h₀ L s.heap m) (N : News h₀ L s.heap ((d, o) :: rest))
    (hne : ∀ p ∈ rest, p.1 ≠ d) (hs : (d == sysModules) = false) (hD : DI w o (OwnD rate burst peak other f sec)) (h5 : 0 ≤ size) (h6 : size ≤ 70)
    (ret : ∀ c' t o' f' sec' h' tk', T2 c size f sec c' f' sec' → DI w o' (OwnD rate burst peak other f' sec') →
      Fr h₀ L h' m → News h₀ L h' ((d, o') :: rest) → Q (.str (cs c') t) { s with heap := h', toks := tk' }) :
    wpAny (model PySem.Challenge.rw_pc0363_01.row.prog w) (ktrTop dp un gd cn csc L a ccd cl outer) (call (.ref 248) [.ref d, .int size ts, .str (cs c) tb]) Q E s := by
  obtain ⟨B, F, X, T, hk, hdp, hun⟩ := C
  obtain ⟨kvs, hd, hf⟩ := hD
  w_on
  cases c
  all_goals dsimp only [cs]
  all_goals w_strict (
    (revert X; k_fill; intro X)
    refine wpAny_call ?_
    k_dflt (refine' code_def ?k1 ?k2 ?k3 ?k4 ?k5 ?kA ?kF ?kK ?k6 ?k7 ?k8 ?k9 ?kB ?_ ?c2 ?c3 ?c4 ?c5; (case kA => exact rfl); (case kF => exact rfl); (case kK => assumption); (case k1 => k_asm); (case k2 => k_asm); (case k3 => k_asm); (case k4 => k_asm); (case k5 => k_asm); (case k6 => k_is); (case k7 => k_is); (case k8 => ktr_room); (case k9 => first | exact BindsTo.of_eq rfl | exact binds_K (by k_in) rfl (by k_is) rfl rfl rfl); (case c5 => decide); (case kB => exact locs rfl); (case c2 => exact rfl); (case c3 => exact rfl); (case c4 => exact rfl); k_whole; intro zg' zL' zh' zFG' zF' zN' zB' zX' zT'; (try dsimp only); (try k_lift zB'); (try k_fold))
    k_steps
    all_goals (
      (rename News _ _ _ _ => kN9)
      (rename Fr _ _ _ _ => kF9)
      (rename Obj.IsDictOf _ _ _ => hd9)
      (rename PyProof.V.FlatPairs _ _ _ => hf9)
      first
      | exact ret .r _ _ f sec _ _ (.inl ⟨rfl, rfl, rfl, rfl⟩) ⟨_, hd9, hf9⟩ kF9 kN9
      | exact ret .r _ _ f sec _ _ (.inr (.inl ⟨.inl rfl, by assumption, rfl, rfl, rfl⟩)) ⟨_, hd9, hf9⟩ kF9 kN9
      | exact ret .r _ _ f sec _ _ (.inr (.inl ⟨.inr rfl, by assumption, rfl, rfl, rfl⟩)) ⟨_, hd9, hf9⟩ kF9 kN9
      | exact ret .y _ _ f (sec - 100 * size) _ _ (.inr (.inr (.inl ⟨rfl, by assumption, rfl, rfl, rfl⟩))) ⟨_, hd9, hf9⟩ kF9 kN9
      | exact ret .y _ _ f (sec - 100 * size) _ _ (.inr (.inr (.inr (.inl ⟨rfl, by assumption, by assumption, rfl, rfl, rfl⟩)))) ⟨_, hd9, hf9⟩ kF9 kN9
      | exact ret .g _ _ (f - 100 * size) (sec - 100 * size) _ _ (.inr (.inr (.inr (.inr ⟨rfl, by assumption, by assumption, rfl, rfl, rfl⟩)))) ⟨_, hd9, hf9⟩ kF9 kN9))
end
/-- one hundredth of the law's own filling: one rate, two rates -/
def stA (rate burst other : Int) (c : Int × Int) : Int × Int :=
  let o := if 0 < c.1 + rate - burst then c.1 + rate - burst else 0
  (c.1 + rate - o, mn (c.2 + o) other)
def itA (rate burst other : Int) : Nat → Int × Int → Int × Int
  | 0, c => c
  | n + 1, c => stA rate burst other (itA rate burst other n c)
def stB (rate burst peak other : Int) (c : Int × Int) : Int × Int := (mn (c.1 + rate) burst, mn (c.2 + peak) other)
def itB (rate burst peak other : Int) : Nat → Int × Int → Int × Int
  | 0, c => c
  | n + 1, c => stB rate burst peak other (itB rate burst peak other n c)
section
variable {w : World} {lo : List Str} {me : ExcName → Option Value} {mg mb : Str → Option Value}
    {dp un : Nat} {gd : Option (List Code)} {cn : Str} {csc : Scope} {a : Addr} {ccd : Value} {cl : List (Str × Addr)} {outer : List Env} {A₀ : Around} {base h₀ : Heap} {L : Addr} {m : Str → Option Value} {s : Shared} {Q E : Value → Shared → Prop}
local macro_rules | `(tactic| walk_at "exec For") => `(tactic| (k_here; (rename Fr _ _ _ _ => lF'); (with_unfolding_all refine' For_invVF lF' ?k1 ?k2 ?_; (case k1 => exact rfl); (case k2 => exact rfl); k_whole)))
local macro_rules | `(tactic| walk_at "exec For Name Call cons nil") => `(tactic| (k_here; (rename Fr _ _ _ _ => lF'); (with_unfolding_all refine' For_invVF lF' ?k1 ?k2 ?_; (case k1 => exact rfl); (case k2 => exact rfl); k_whole)))
local macro_rules | `(tactic| walk_at "pyIter ref") => `(tactic| (k_here; refine stop ?_))
local macro_rules | `(tactic| walk_at "InvEndN") => `(tactic| (refine stop ?_))
set_option maxRecDepth 100000 in
set_option maxHeartbeats 4000000 in
theorem filled1_call {d : Addr} {o : Obj} {rate burst peak other f sec : Int} {k : Nat} {tn : Tok} {rest : List (Addr × Obj)}
    (C : Cal w lo me mg mb dp un csc A₀ base outer h₀ L s.heap m) (N : News h₀ L s.heap ((d, o) :: rest))
    (hne : ∀ p ∈ rest, p.1 ≠ d) (hs : (d == sysModules) = false) (hD : DI w o (OwnD rate burst peak other f sec)) (hk30 : k ≤ 30)
    (ret : ∀ o' h' tk', DI w o' (OwnD rate burst peak other (itA rate burst other k (f, sec)).1 (itA rate burst other k (f, sec)).2) →
      Fr h₀ L h' m → News h₀ L h' ((d, o') :: rest) → Q .none { s with heap := h', toks := tk' }) :
    wpAny (model PySem.Challenge.rw_pc0363_01.row.prog w) (ktrTop dp un gd cn csc L a ccd cl outer) (call (.ref 227) [.ref d, .int (k : Int) tn]) Q E s := by
  obtain ⟨B, F, X, T, hk, hdp, hun⟩ := C
  obtain ⟨kvs, hd, hf⟩ := hD
  w_on
  w_strict (
    (revert X; k_fill; intro X)
    refine wpAny_call ?_
    k_dflt (refine' code_def ?k1 ?k2 ?k3 ?k4 ?k5 ?kA ?kF ?kK ?k6 ?k7 ?k8 ?k9 ?kB ?_ ?c2 ?c3 ?c4 ?c5; (case kA => exact rfl); (case kF => exact rfl); (case kK => assumption); (case k1 => k_asm); (case k2 => k_asm); (case k3 => k_asm); (case k4 => k_asm); (case k5 => k_asm); (case k6 => k_is); (case k7 => k_is); (case k8 => ktr_room); (case k9 => first | exact BindsTo.of_eq rfl | exact binds_K (by k_in) rfl (by k_is) rfl rfl rfl); (case c5 => decide); (case kB => exact locs rfl); (case c2 => exact rfl); (case c3 => exact rfl); (case c4 => exact rfl); k_whole; intro zg' zL' zh' zFG' zF' zN' zB' zX' zT'; (try dsimp only); (try k_lift zB'); (try k_fold))
    k_steps
    unfold Stop
    (rename Fr _ _ _ _ => lF')
    (rename News _ _ _ _ => lN')
    (rename IsRange _ _ _ _ _ _ _ _ => rgX)
    refine' kst_range (σ := Obj × List (Str × Value) × Int × Int) (n := k) (fun c => (d, c.1) :: rest) (fun _ => []) (fun c => Obj.IsDictOf (PySem.strKind PySem.Challenge.rw_pc0363_01.row.prog w) c.1 c.2.1 ∧ PyProof.V.FlatPairs PyData.str c.2.1 (OwnD rate burst peak other c.2.2.1 c.2.2.2))
      [Str.ofString "over"] (fun pre c => c.2.2 = itA rate burst other pre.length (f, sec)) (o, kvs, f, sec) (by rfl) rgX (small_one (by omega) (by omega) (by omega) (by omega)) ?kn lF' lN' ⟨hd, hf⟩ (fun _ h => nomatch h) rfl ?kt ?kd
    (case kn => rw [rangeSize_nat]; omega)
    (case kt =>
      clear lF' lN' rgX
      intro c pre kk t9 u9 h9 tk9 own9 hkk hlt hoff hfacts hP F1 N1
      obtain ⟨o1, kvs1, f1, s1⟩ := c
      obtain ⟨hd1, hf1⟩ := hfacts
      dsimp only [kstB] at F1 N1 hd1 hf1 hP
      have hne1 : ∀ p ∈ rest ++ own9, p.1 ≠ d := fun p hp => (List.mem_append.mp hp).elim (hne p) fun h => hoff p h d (.head _)
      rw [List.cons_append] at N1
      (try k_fold)
      k_steps
      unfold Stop
      (rename News _ _ _ _ => kN9)
      (rename Fr _ _ _ _ => kF9)
      (rename Obj.IsDictOf _ _ _ => hd9)
      (rename PyProof.V.FlatPairs _ _ _ => hf9)
      refine' kst_end (?eo, ?ek, (itA rate burst other (pre.length + 1) (f, sec)).1, (itA rate burst other (pre.length + 1) (f, sec)).2) kF9 (sub_tail kN9) (fun p hp => ?e1) (fun p hp => ?e2) ?e6 ⟨?e5, ?e3⟩ (fun _ h => nomatch h) (by kst_same) ?e4
      (case e5 => exact hd9)
      (case e6 => rfl)
      (case e1 =>
        rcases List.mem_cons.mp hp with rfl | hp
        · exact .head _
        · exact .tail _ (List.mem_append_left _ hp))
      (case e2 => exact .tail _ (List.mem_append_right _ hp))
      (case e4 => rw [List.length_append]; rfl)
      (case e3 =>
        have e5 : itA rate burst other (pre.length + 1) (f, sec) = stA rate burst other (f1, s1) := by rw [hP]; rfl
        rw [e5]
        exact hf9))
    (case kd =>
      intro c u9 h9 tk9 hfacts hP F1 N1
      obtain ⟨o1, kvs1, f1, s1⟩ := c
      obtain ⟨hd1, hf1⟩ := hfacts
      dsimp only at N1 hd1 hf1 hP
      rw [rangeKs_length] at hP
      clear lF' lN' rgX
      k_steps
      (rename News _ _ _ _ => kN9)
      (rename Fr _ _ _ _ => kF9)
      refine ret o1 _ _ ⟨kvs1, hd1, ?e1⟩ kF9 kN9
      rw [← hP]
      exact hf1))
set_option maxRecDepth 100000 in
set_option maxHeartbeats 4000000 in
theorem filled2_call {d : Addr} {o : Obj} {rate burst peak other f sec : Int} {k : Nat} {tn : Tok} {rest : List (Addr × Obj)}
    (C : Cal w lo me mg mb dp un csc A₀ base outer h₀ L s.heap m) (N : News h₀ L s.heap ((d, o) :: rest))
    (hne : ∀ p ∈ rest, p.1 ≠ d) (hs : (d == sysModules) = false) (hD : DI w o (OwnD rate burst peak other f sec)) (hk30 : k ≤ 30)
    (ret : ∀ o' h' tk', DI w o' (OwnD rate burst peak other (itB rate burst peak other k (f, sec)).1 (itB rate burst peak other k (f, sec)).2) →
      Fr h₀ L h' m → News h₀ L h' ((d, o') :: rest) → Q .none { s with heap := h', toks := tk' }) :
    wpAny (model PySem.Challenge.rw_pc0363_01.row.prog w) (ktrTop dp un gd cn csc L a ccd cl outer) (call (.ref 234) [.ref d, .int (k : Int) tn]) Q E s := by
  obtain ⟨B, F, X, T, hk, hdp, hun⟩ := C
  obtain ⟨kvs, hd, hf⟩ := hD
  w_on
  w_strict (
    (revert X; k_fill; intro X)
    refine wpAny_call ?_
    k_dflt (refine' code_def ?k1 ?k2 ?k3 ?k4 ?k5 ?kA ?kF ?kK ?k6 ?k7 ?k8 ?k9 ?kB ?_ ?c2 ?c3 ?c4 ?c5; (case kA => exact rfl); (case kF => exact rfl); (case kK => assumption); (case k1 => k_asm); (case k2 => k_asm); (case k3 => k_asm); (case k4 => k_asm); (case k5 => k_asm); (case k6 => k_is); (case k7 => k_is); (case k8 => ktr_room); (case k9 => first | exact BindsTo.of_eq rfl | exact binds_K (by k_in) rfl (by k_is) rfl rfl rfl); (case c5 => decide); (case kB => exact locs rfl); (case c2 => exact rfl); (case c3 => exact rfl); (case c4 => exact rfl); k_whole; intro zg' zL' zh' zFG' zF' zN' zB' zX' zT'; (try dsimp only); (try k_lift zB'); (try k_fold))
    k_steps
    unfold Stop
    (rename Fr _ _ _ _ => lF')
    (rename News _ _ _ _ => lN')
    (rename IsRange _ _ _ _ _ _ _ _ => rgX)
    refine' kst_range (σ := Obj × List (Str × Value) × Int × Int) (n := k) (fun c => (d, c.1) :: rest) (fun _ => []) (fun c => Obj.IsDictOf (PySem.strKind PySem.Challenge.rw_pc0363_01.row.prog w) c.1 c.2.1 ∧ PyProof.V.FlatPairs PyData.str c.2.1 (OwnD rate burst peak other c.2.2.1 c.2.2.2))
      [] (fun pre c => c.2.2 = itB rate burst peak other pre.length (f, sec)) (o, kvs, f, sec) (by rfl) rgX (small_one (by omega) (by omega) (by omega) (by omega)) ?kn lF' lN' ⟨hd, hf⟩ (fun _ h => nomatch h) rfl ?kt ?kd
    (case kn => rw [rangeSize_nat]; omega)
    (case kt =>
      clear lF' lN' rgX
      intro c pre kk t9 u9 h9 tk9 own9 hkk hlt hoff hfacts hP F1 N1
      obtain ⟨o1, kvs1, f1, s1⟩ := c
      obtain ⟨hd1, hf1⟩ := hfacts
      dsimp only [kstB] at F1 N1 hd1 hf1 hP
      have hne1 : ∀ p ∈ rest ++ own9, p.1 ≠ d := fun p hp => (List.mem_append.mp hp).elim (hne p) fun h => hoff p h d (.head _)
      rw [List.cons_append] at N1
      (try k_fold)
      k_steps
      unfold Stop
      (rename News _ _ _ _ => kN9)
      (rename Fr _ _ _ _ => kF9)
      (rename Obj.IsDictOf _ _ _ => hd9)
      (rename PyProof.V.FlatPairs _ _ _ => hf9)
      refine' kst_end (?eo, ?ek, (itB rate burst peak other (pre.length + 1) (f, sec)).1, (itB rate burst peak other (pre.length + 1) (f, sec)).2) kF9 kN9 (fun p hp => ?e1) (fun p hp => ?e2) ?e6 ⟨?e5, ?e3⟩ (fun _ h => nomatch h) (by kst_same) ?e4
      (case e5 => exact hd9)
      (case e6 => rfl)
      (case e1 =>
        rcases List.mem_cons.mp hp with rfl | hp
        · exact .head _
        · exact .tail _ (List.mem_append_left _ hp))
      (case e2 => exact .tail _ (List.mem_append_right _ hp))
      (case e4 => rw [List.length_append]; rfl)
      (case e3 =>
        have e5 : itB rate burst peak other (pre.length + 1) (f, sec) = stB rate burst peak other (f1, s1) := by rw [hP]; rfl
        rw [e5]
        exact hf9))
    (case kd =>
      intro c u9 h9 tk9 hfacts hP F1 N1
      obtain ⟨o1, kvs1, f1, s1⟩ := c
      obtain ⟨hd1, hf1⟩ := hfacts
      dsimp only at N1 hd1 hf1 hP
      rw [rangeKs_length] at hP
      clear lF' lN' rgX
      k_steps
      (rename News _ _ _ _ => kN9)
      (rename Fr _ _ _ _ => kF9)
      refine ret o1 _ _ ⟨kvs1, hd1, ?e1⟩ kF9 kN9
      rw [← hP]
      exact hf1))
end
section
theorem mul_nat_succ (r : Int) (k : Nat) : r * ((k + 1 : Nat) : Int) = r * (k : Int) + r := by
  rw [Int.natCast_add, Int.mul_add, Int.natCast_one, Int.mul_one]
theorem itA_closed {rate B O f s : Int} (hr : 0 ≤ rate) (hf : f ≤ B) (hs : s ≤ O) : ∀ k : Nat, itA rate B O k (f, s) = (mn (f + rate * (k : Int)) B, mn (s + (if 0 < f + rate * (k : Int) - B then f + rate * (k : Int) - B else 0)) O) := by
  intro k
  induction k with
  | zero =>
    simp only [itA, Int.natCast_zero, Int.mul_zero, Int.add_zero, mn]
    refine Prod.ext ?_ ?_ <;> dsimp only <;> (repeat' split) <;> omega
  | succ k ih =>
    have hX : 0 ≤ rate * (k : Int) := Int.mul_nonneg hr (Int.natCast_nonneg k)
    rw [itA, ih, mul_nat_succ]
    generalize rate * (k : Int) = X at hX
    simp only [stA, mn]
    refine Prod.ext ?_ ?_ <;> dsimp only <;> (repeat' split) <;> omega
theorem itB_closed {rate peak B O f s : Int} (hr : 0 ≤ rate) (hp : 0 ≤ peak) (hf : f ≤ B) (hs : s ≤ O) : ∀ k : Nat, itB rate B peak O k (f, s) = (mn (f + rate * (k : Int)) B, mn (s + peak * (k : Int)) O) := by
  intro k
  induction k with
  | zero =>
    simp only [itB, Int.natCast_zero, Int.mul_zero, Int.add_zero, mn]
    refine Prod.ext ?_ ?_ <;> dsimp only <;> (repeat' split) <;> omega
  | succ k ih =>
    have hX : 0 ≤ rate * (k : Int) := Int.mul_nonneg hr (Int.natCast_nonneg k)
    have hY : 0 ≤ peak * (k : Int) := Int.mul_nonneg hp (Int.natCast_nonneg k)
    rw [itB, ih, mul_nat_succ, mul_nat_succ]
    generalize rate * (k : Int) = X at hX
    generalize peak * (k : Int) = Y at hY
    simp only [stB, mn]
    refine Prod.ext ?_ ?_ <;> dsimp only <;> (repeat' split) <;> omega
/-- the buckets of a SingleRate stand as the law's own -/
structure I1 (now rate u1 g1 t1 u2 g2 t2 f s : Int) : Prop where
  e1 : f = g1
  e2 : s = g2
  t1 : t1 = now
  t2 : t2 ≤ now
  f0 : 0 ≤ f
  fB : f ≤ u1 * 100
  sO : s ≤ u2 * 100
/-- the buckets of a TwoRate stand as the law's own -/
structure I2 (now r1 u1 g1 t1 r2 u2 g2 t2 f s : Int) : Prop where
  e1 : f = fG r1 u1 g1 t1 now
  e2 : s = fG r2 u2 g2 t2 now
  t1 : t1 ≤ now
  t2 : t2 ≤ now
  gB : g1 ≤ u1 * 100
  gO : g2 ≤ u2 * 100
theorem fG_le {r u g t now : Int} (h : g ≤ u * 100) : fG r u g t now ≤ u * 100 := by
  unfold fG mn
  (repeat' split) <;> omega
theorem fT_of {t now : Int} (h : t ≤ now) : fT t now = now := by
  unfold fT
  split <;> omega
theorem fG_on {r u g t now : Int} {k : Nat} (hr : 0 ≤ r) (ht : t ≤ now) (hg : g ≤ u * 100) : fG r u g t (now + (k : Int)) = mn (fG r u g t now + r * (k : Int)) (u * 100) := by
  have hX : 0 ≤ r * (k : Int) := Int.mul_nonneg hr (Int.natCast_nonneg k)
  have e : r * (now + (k : Int) - t) = r * (now - t) + r * (k : Int) := by rw [← Int.mul_add]; congr 1; omega
  by_cases h0 : now = t
  · subst h0
    have e2 : r * (now - now) = 0 := by rw [Int.sub_self, Int.mul_zero]
    unfold fG
    rw [e, e2, if_pos (Int.le_refl _)]
    by_cases hk : k = 0
    · subst hk
      simp only [Int.natCast_zero, Int.add_zero, Int.mul_zero, if_pos (Int.le_refl now), mn]
      split <;> omega
    · rw [if_neg (by omega), Int.zero_add]
  · have hY : 0 ≤ r * (now - t) := Int.mul_nonneg hr (by omega)
    unfold fG
    rw [e, if_neg (by omega), if_neg (by omega)]
    generalize r * (now - t) = Y at hY
    generalize r * (k : Int) = X at hX
    unfold mn
    (repeat' split) <;> omega
theorem fG_again {r u g t now : Int} (h : now ≤ t) : fG r u g t now = g := if_pos h
theorem fG_zero {u g t now : Int} (h : g ≤ u * 100) : fG 0 u g t now = g := by
  unfold fG mn
  rw [Int.zero_mul]
  (repeat' split) <;> omega
/-- the octets that are green -/
def gv : Col → Int → Int
  | .g, size => 100 * size
  | .y, _ => 0
  | .r, _ => 0
/-- what a turn does: one rate -/
theorem turn1 {now rate u1 g1 t1 u2 g2 t2 f s size : Int} {k : Nat} {c c1 c2 : Col} {g1' t1' g2' t2' f' s' : Int} (hr : 0 ≤ rate) (hsz : 0 ≤ size) (I : I1 now rate u1 g1 t1 u2 g2 t2 f s)
    (hR : R1 c size (now + (k : Int)) rate u1 g1 t1 0 u2 g2 t2 c1 g1' t1' g2' t2') (hT : T1 c size (itA rate (100 * u1) (100 * u2) k (f, s)).1 (itA rate (100 * u1) (100 * u2) k (f, s)).2 c2 f' s') :
    c1 = c2 ∧ I1 (now + (k : Int)) rate u1 g1' t1' u2 g2' t2' f' s' ∧ f' + gv c2 size ≤ f + rate * (k : Int) := by
  obtain ⟨e1, e2, ht1, ht2, hf0, hfB, hsO⟩ := I
  subst e1 e2 ht1
  have hX : 0 ≤ rate * (k : Int) := Int.mul_nonneg hr (Int.natCast_nonneg k)
  rw [itA_closed hr (by omega) (by omega)] at hT
  have hT1 : fT t1 (t1 + (k : Int)) = t1 + (k : Int) := fT_of (by omega)
  have hT2 : fT t2 (t1 + (k : Int)) = t1 + (k : Int) := fT_of (by omega)
  have eG : fG rate u1 f t1 (t1 + (k : Int)) = mn (f + rate * (k : Int)) (100 * u1) := by
    rw [fG_on hr (Int.le_refl _) (by omega), fG_again (Int.le_refl _), Int.mul_comm u1]
  have eO : fO rate u1 f t1 (t1 + (k : Int)) = if 0 < f + rate * (k : Int) - 100 * u1 then f + rate * (k : Int) - 100 * u1 else 0 := by
    unfold fO
    by_cases hk : k = 0
    · subst hk
      simp only [Int.natCast_zero, Int.add_zero, Int.mul_zero, if_pos (Int.le_refl t1)]
      split <;> omega
    · rw [if_neg (by omega), show t1 + (k : Int) - t1 = (k : Int) by omega]
      generalize rate * (k : Int) = X at hX
      unfold mn
      (repeat' split) <;> omega
  unfold R1 at hR
  dsimp only at hR
  have hT3 : fT (t1 + (k : Int)) (t1 + (k : Int)) = t1 + (k : Int) := fT_of (Int.le_refl _)
  rw [hT1, hT3, hT2, eG, eO, fG_again (Int.le_refl _)] at hR
  generalize hS : mn (s + if 0 < f + rate * (k : Int) - 100 * u1 then f + rate * (k : Int) - 100 * u1 else 0) (u2 * 100) = S at hR
  have hS' : S ≤ u2 * 100 := by rw [← hS]; unfold mn; split <;> omega
  rw [fG_zero hS'] at hR
  have hTs : mn (s + if 0 < f + rate * (k : Int) - 100 * u1 then f + rate * (k : Int) - 100 * u1 else 0) (100 * u2) = S := by rw [Int.mul_comm 100 u2]; exact hS
  dsimp only at hT
  rw [hTs] at hT
  generalize hGd : mn (f + rate * (k : Int)) (100 * u1) = G at hR hT
  have hG1 : G ≤ u1 * 100 := by rw [← hGd]; unfold mn; split <;> omega
  have hG0 : 0 ≤ G := by rw [← hGd]; unfold mn; generalize rate * (k : Int) = X at hX; split <;> omega
  have hG2 : G ≤ f + rate * (k : Int) := by rw [← hGd]; unfold mn; split <;> omega
  generalize rate * (k : Int) = X at hX hG2
  clear hS hTs hGd eG eO hT1 hT2 hT3
  unfold T1 at hT
  rcases hR with ⟨a1, a2, a3, a4, a5, a6, a7⟩ | ⟨a1, a2, a3, a4, a5, a6, a7, a8⟩ | ⟨a1, a2, a3, a4, a5, a6, a7, a8⟩ | ⟨a1, a2, a3, a4, a5, a6, a7⟩ | ⟨a1, a2, a3, a4, a5, a6, a7⟩ | ⟨a1, a2, a3, a4, a5, a6⟩ <;>
  rcases hT with ⟨b1, b2, b3, b4, b5⟩ | ⟨b1, b2, b3, b4, b5, b6⟩ | ⟨b1, b2, b3, b4, b5, b6⟩ | ⟨b1, b2, b3, b4, b5⟩ | ⟨b1, b2, b3, b4, b5⟩ | ⟨b1, b2, b3, b4⟩ <;>
  (subst a1) <;> (cases b1) <;> first
    | (exfalso; omega)
    | (subst_vars; exact ⟨rfl, ⟨by omega, by omega, by omega, by omega, by omega, by omega, by omega⟩, by simp only [gv]; omega⟩)
theorem turn2 {now r1 u1 g1 t1 r2 u2 g2 t2 f s size : Int} {k : Nat} {c c1 c2 : Col} {g1' t1' g2' t2' f' s' : Int} (hr : 0 ≤ r1) (hp : 0 ≤ r2) (hsz : 0 ≤ size) (I : I2 now r1 u1 g1 t1 r2 u2 g2 t2 f s)
    (hR : R2 c size (now + (k : Int)) r1 u1 g1 t1 r2 u2 g2 t2 c1 g1' t1' g2' t2') (hT : T2 c size (itB r1 (100 * u1) r2 (100 * u2) k (f, s)).1 (itB r1 (100 * u1) r2 (100 * u2) k (f, s)).2 c2 f' s') :
    c1 = c2 ∧ I2 (now + (k : Int)) r1 u1 g1' t1' r2 u2 g2' t2' f' s' := by
  obtain ⟨e1, e2, ht1, ht2, hgB, hgO⟩ := I
  subst e1 e2
  rw [itB_closed hr hp (by rw [Int.mul_comm 100 u1]; exact fG_le hgB) (by rw [Int.mul_comm 100 u2]; exact fG_le hgO)] at hT
  dsimp only at hT
  rw [Int.mul_comm 100 u1, Int.mul_comm 100 u2, ← fG_on hr ht1 hgB, ← fG_on hp ht2 hgO] at hT
  unfold R2 at hR
  dsimp only at hR
  have hT1 : fT t1 (now + (k : Int)) = now + (k : Int) := fT_of (by omega)
  have hT2 : fT t2 (now + (k : Int)) = now + (k : Int) := fT_of (by omega)
  rw [hT1, hT2] at hR
  have l1 : fG r1 u1 g1 t1 (now + (k : Int)) ≤ u1 * 100 := fG_le hgB
  have l2 : fG r2 u2 g2 t2 (now + (k : Int)) ≤ u2 * 100 := fG_le hgO
  unfold T2 at hT
  rcases hR with ⟨a1, a2, a3, a4, a5, a6⟩ | ⟨(a1 | a1), a2, a3, a4, a5, a6, a7⟩ | ⟨a1, a2, a3, a4, a5, a6, a7⟩ | ⟨a1, a2, a3, a4, a5, a6, a7, a8⟩ | ⟨a1, a2, a3, a4, a5, a6, a7, a8⟩ <;>
  rcases hT with ⟨b1, b2, b3, b4⟩ | ⟨(b1 | b1), b2, b3, b4, b5⟩ | ⟨b1, b2, b3, b4, b5⟩ | ⟨b1, b2, b3, b4, b5, b6⟩ | ⟨b1, b2, b3, b4, b5, b6⟩ <;>
  (subst a1) <;> (cases b1) <;> first
    | (exfalso; omega)
    | (subst_vars; exact ⟨rfl, ⟨by first | (rw [fG_again (Int.le_refl _)]; all_goals omega) | omega | rfl, by first | (rw [fG_again (Int.le_refl _)]; all_goals omega) | omega | rfl, by omega, by omega, by omega, by omega⟩⟩)
end
theorem sub_second {h₀ h : Heap} {L : Addr} {p q : Addr × Obj} {l : List (Addr × Obj)} (N : News h₀ L h (p :: q :: l)) : News h₀ L h (p :: l) := fun x hx => N x (by
  rcases List.mem_cons.mp hx with rfl | hx
  · exact .head _
  · exact .tail _ (.tail _ hx))
theorem abs_nonneg {z : Int} : 0 ≤ (if z < 0 then -z else z) := by split <;> omega
section
theorem item0 {prog : Program} {w : World} {A : Around} {E : Value → Shared → Prop} {s : Shared} {g : Heap} {L l : Addr} {m : Str → Option Value} {v : Value} {vs : List Value} {u : Tok} {value slice : Expr} {Q : Value → Shared → Prop}
    (F : Fr g L s.heap m) (hl : g.IsList l (v :: vs).toArray) (h : Q v s)
    (hs : subscripted slice false (.ref l) (.int 0 u) = operate [.ref l, .int 0 u] (getItem (.ref l) (.int 0 u)) := by with_unfolding_all rfl) :
    wpAny (model prog w) A (subscriptTail value slice (.ref l) (.int 0 u)) Q E s := by
  have hl' : s.heap.IsList l (v :: vs).toArray := hl.at fun o e => F.keep l o e
  exact tail_any hl'.typeIs slot_list_getitem.lookup (wpAny_getItem_list hl' (by decide) (by decide) (by simp) h) hs
variable {w : World} {lo : List Str} {me : ExcName → Option Value} {mg mb : Str → Option Value}
    {dp un : Nat} {gd : Option (List Code)} {cn : Str} {csc : Scope} {a : Addr} {ccd : Value} {cl : List (Str × Addr)} {outer : List Env} {A₀ : Around} {base h₀ : Heap} {L : Addr} {m : Str → Option Value} {s : Shared} {Q E : Value → Shared → Prop}
local macro_rules | `(tactic| walk_at "subscriptTail") => `(tactic| (k_here; refine stop ?_))
set_option maxRecDepth 100000 in
set_option maxHeartbeats 4000000 in
theorem source_call {l : Addr} {vs : List Value} {ns : List Int} {rest : List (Addr × Obj)}
    (C : Cal w lo me mg mb dp un csc A₀ base outer h₀ L s.heap m) (N : News h₀ L s.heap rest)
    (hl : base.IsList l vs.toArray) (hi : IntsAre vs ns) (hlen : ns.length ≤ 63)
    (ret : ∀ d o' x y h' tk', (∀ p ∈ rest, p.1 < d) → (d == sysModules) = false → 0 ≤ x → 0 ≤ y → y < 2147483648 → DI w o' (SrcD x y) →
      Fr h₀ L h' m → News h₀ L h' ((d, o') :: rest) → Q (.ref d) { s with heap := h', toks := tk' }) :
    wpAny (model PySem.Challenge.rw_pc0363_01.row.prog w) (ktrTop dp un gd cn csc L a ccd cl outer) (call (.ref 206) [.ref l]) Q E s := by
  obtain ⟨B, F, X, T, hk, hdp, hun⟩ := C
  w_on
  cases hi
  · w_strict (
    (revert X; k_fill; intro X)
    refine wpAny_call ?_
    k_dflt (refine' code_def ?k1 ?k2 ?k3 ?k4 ?k5 ?kA ?kF ?kK ?k6 ?k7 ?k8 ?k9 ?kB ?_ ?c2 ?c3 ?c4 ?c5; (case kA => exact rfl); (case kF => exact rfl); (case kK => assumption); (case k1 => k_asm); (case k2 => k_asm); (case k3 => k_asm); (case k4 => k_asm); (case k5 => k_asm); (case k6 => k_is); (case k7 => k_is); (case k8 => ktr_room); (case k9 => first | exact BindsTo.of_eq rfl | exact binds_K (by k_in) rfl (by k_is) rfl rfl rfl); (case c5 => decide); (case kB => exact locs rfl); (case c2 => exact rfl); (case c3 => exact rfl); (case c4 => exact rfl); k_whole; intro zg' zL' zh' zFG' zF' zN' zB' zX' zT'; (try dsimp only); (try k_lift zB'); (try k_fold))
    k_steps
    repeat (any_goals (unfold Stop; (first | (k_dflt (refine' item0 (by k_asm) (by k_asm) ?_ (by with_unfolding_all rfl)); k_whole)); k_steps))
    all_goals (
      (rename News _ _ _ _ => kN9)
      (rename Fr _ _ _ _ => kF9)
      (rename Obj.IsDictOf _ _ _ => hd9)
      (rename PyProof.V.FlatPairs _ _ _ => hf9)
      (rename (_ ∧ AllLt _ _) => hl9)
      refine ret _ _ _ _ _ _ (kst_ltOf hl9.2) (by assumption) ?e1 ?e2 ?e3 ⟨_, hd9, hf9⟩ kF9 (sub_second kN9)
      (case e1 => first | exact Int.le_refl _ | exact abs_nonneg)
      (case e2 => first | decide | exact Int.add_nonneg (fmod_bounds _ (b := 1000003) (by decide)).1 (by decide))
      (case e3 => first | decide | exact Int.lt_of_lt_of_le (Int.add_lt_add_right (fmod_bounds _ (b := 1000003) (by decide)).2 9) (by decide))))
  · w_strict (
    (revert X; k_fill; intro X)
    refine wpAny_call ?_
    k_dflt (refine' code_def ?k1 ?k2 ?k3 ?k4 ?k5 ?kA ?kF ?kK ?k6 ?k7 ?k8 ?k9 ?kB ?_ ?c2 ?c3 ?c4 ?c5; (case kA => exact rfl); (case kF => exact rfl); (case kK => assumption); (case k1 => k_asm); (case k2 => k_asm); (case k3 => k_asm); (case k4 => k_asm); (case k5 => k_asm); (case k6 => k_is); (case k7 => k_is); (case k8 => ktr_room); (case k9 => first | exact BindsTo.of_eq rfl | exact binds_K (by k_in) rfl (by k_is) rfl rfl rfl); (case c5 => decide); (case kB => exact locs rfl); (case c2 => exact rfl); (case c3 => exact rfl); (case c4 => exact rfl); k_whole; intro zg' zL' zh' zFG' zF' zN' zB' zX' zT'; (try dsimp only); (try k_lift zB'); (try k_fold))
    k_steps
    repeat (any_goals (unfold Stop; (first | (k_dflt (refine' item0 (by k_asm) (by k_asm) ?_ (by with_unfolding_all rfl)); k_whole)); k_steps))
    all_goals (
      (rename News _ _ _ _ => kN9)
      (rename Fr _ _ _ _ => kF9)
      (rename Obj.IsDictOf _ _ _ => hd9)
      (rename PyProof.V.FlatPairs _ _ _ => hf9)
      (rename (_ ∧ AllLt _ _) => hl9)
      refine ret _ _ _ _ _ _ (kst_ltOf hl9.2) (by assumption) ?e1 ?e2 ?e3 ⟨_, hd9, hf9⟩ kF9 (sub_second kN9)
      (case e1 => first | exact Int.le_refl _ | exact abs_nonneg)
      (case e2 => first | decide | exact Int.add_nonneg (fmod_bounds _ (b := 1000003) (by decide)).1 (by decide))
      (case e3 => first | decide | exact Int.lt_of_lt_of_le (Int.add_lt_add_right (fmod_bounds _ (b := 1000003) (by decide)).2 9) (by decide))))
end
/-- the tokens and the addresses of one policer -/
structure PTok where
  (k1 k2 k3 k11 v11 k12 v12 k13 v13 k14 v14 k21 v21 k22 v22 k23 v23 k24 v24 : Tok)
section
variable {w : World} {lo : List Str} {me : ExcName → Option Value} {mg mb : Str → Option Value}
    {dp un : Nat} {gd : Option (List Code)} {cn : Str} {csc : Scope} {a : Addr} {ccd : Value} {cl : List (Str × Addr)} {outer : List Env} {A₀ : Around} {base h₀ : Heap} {L : Addr} {m : Str → Option Value} {s : Shared} {Q E : Value → Shared → Prop}
set_option maxRecDepth 100000 in
set_option maxHeartbeats 4000000 in
/-- `Bucket(rate, burst)` -/
theorem bucket_make {rate burst : Int} {t1 t2 : Tok} {rest : List (Addr × Obj)}
    (C : Cal w lo me mg mb dp un csc A₀ base outer h₀ L s.heap m) (N : News h₀ L s.heap rest) (hdp : dp + 20 < recursionLimit) (hun : un + 200 < cLine) (h1 : 0 ≤ rate) (h3 : 1 ≤ burst) (h4 : burst ≤ 70)
    (ret : ∀ (k1 v1 k2 v2 k3 v3 k4 v4 : Tok) (b d : Nat) h' tk', (∀ p ∈ rest, p.1 < d) → d < b → Fr h₀ L h' m →
      News h₀ L h' ((b, instObj 127 d) :: (d, bk w k1 v1 k2 v2 k3 v3 k4 v4 rate burst (burst * 100) 0) :: rest) →
      Q (.ref b) { s with heap := h', toks := tk' }) :
    wpAny (model PySem.Challenge.rw_pc0363_01.row.prog w) (ktrTop dp un gd cn csc L a ccd cl outer) (call (.ref 127) [.int rate t1, .int burst t2]) Q E s := by
  obtain ⟨B, F, X, T, hk, _, _⟩ := C
  w_on
  w_strict (
    (revert X; k_fill; intro X)
    k_dflt (refine' call_cls ?k1 ?k2 ?k3 ?k4 ?k5 ?k6 ?_; (case k1 => k_asm); (case k2 => k_asm); (case k3 => k_asm); (case k4 => k_is); (case k5 => k_is); (case k6 => k_is))
    intro x d h1 F1 N1 l1 l2
    have l1' := l1
    (try k_lt2 l2)
    (try k_sweep)
    k_dflt (refine' code_def ?k1 ?k2 ?k3 ?k4 ?k5 ?kA ?kF ?kK ?k6 ?k7 ?k8 ?k9 ?kB ?_ ?c2 ?c3 ?c4 ?c5; (case kA => exact rfl); (case kF => exact rfl); (case kK => assumption); (case k1 => k_asm); (case k2 => k_asm); (case k3 => k_asm); (case k4 => k_asm); (case k5 => k_asm); (case k6 => k_is); (case k7 => k_is); (case k8 => ktr_room); (case k9 => first | exact BindsTo.of_eq rfl | exact binds_K (by k_in) rfl (by k_is) rfl rfl rfl); (case c5 => decide); (case kB => exact locs rfl); (case c2 => exact rfl); (case c3 => exact rfl); (case c4 => exact rfl); k_whole; intro zg' zL' zh' zFG' zF' zN' zB' zX' zT'; (try dsimp only); (try k_lift zB'); (try k_fold))
    k_steps
    (rename News _ _ _ _ => kN9)
    (rename Fr _ _ _ _ => kF9)
    exact ret _ _ _ _ _ _ _ _ _ _ _ _ l1' (by omega) kF9 kN9)
end
section
variable {w : World} {lo : List Str} {me : ExcName → Option Value} {mg mb : Str → Option Value}
    {dp un : Nat} {gd : Option (List Code)} {cn : Str} {csc : Scope} {a : Addr} {ccd : Value} {cl : List (Str × Addr)} {outer : List Env} {A₀ : Around} {base h₀ : Heap} {L : Addr} {m : Str → Option Value} {s : Shared} {Q E : Value → Shared → Prop}
local macro_rules | `(tactic| walk_at "call ref") => `(tactic| (k_here; refine stop ?_))
set_option maxRecDepth 100000 in
set_option maxHeartbeats 4000000 in
/-- `SingleRate(rate, burst, excess, is_aware)` -/
theorem single_make {rate burst other : Int} {aw : Bool} {t1 t2 t3 : Tok} {rest : List (Addr × Obj)}
    (C : Cal w lo me mg mb dp un csc A₀ base outer h₀ L s.heap m) (N : News h₀ L s.heap rest) (hdp : dp + 40 < recursionLimit) (hun : un + 400 < cLine) (h1 : 0 ≤ rate) (h3 : 1 ≤ burst) (h4 : burst ≤ 70) (h5 : 1 ≤ other) (h6 : other ≤ 70)
    (ret : ∀ (T : PTok) (x dx b1 d1 b2 d2 : Nat) h' tk', (∀ p ∈ rest, p.1 < dx) → dx < x → x < d1 → d1 < b1 → b1 < d2 → d2 < b2 → Fr h₀ L h' m →
      News h₀ L h' ((b2, instObj 127 d2) :: (d2, bk w T.k21 T.v21 T.k22 T.v22 T.k23 T.v23 T.k24 T.v24 0 other (other * 100) 0) :: (b1, instObj 127 d1) :: (d1, bk w T.k11 T.v11 T.k12 T.v12 T.k13 T.v13 T.k14 T.v14 rate burst (burst * 100) 0) :: (x, instObj 165 dx) :: (dx, sg w T.k1 T.k2 T.k3 b1 b2 aw) :: rest) →
      Q (.ref x) { s with heap := h', toks := tk' }) :
    wpAny (model PySem.Challenge.rw_pc0363_01.row.prog w) (ktrTop dp un gd cn csc L a ccd cl outer) (call (.ref 165) [.int rate t1, .int burst t2, .int other t3, .bool aw]) Q E s := by
  obtain ⟨B, F, X, T, hk, _, _⟩ := C
  w_on
  w_strict (
    (revert X; k_fill; intro X)
    k_dflt (refine' call_cls ?k1 ?k2 ?k3 ?k4 ?k5 ?k6 ?_; (case k1 => k_asm); (case k2 => k_asm); (case k3 => k_asm); (case k4 => k_is); (case k5 => k_is); (case k6 => k_is))
    intro x d h1 F1 N1 l1 l2
    have l1' := l1
    (try k_lt2 l2)
    (try k_sweep)
    k_dflt (refine' code_def ?k1 ?k2 ?k3 ?k4 ?k5 ?kA ?kF ?kK ?k6 ?k7 ?k8 ?k9 ?kB ?_ ?c2 ?c3 ?c4 ?c5; (case kA => exact rfl); (case kF => exact rfl); (case kK => assumption); (case k1 => k_asm); (case k2 => k_asm); (case k3 => k_asm); (case k4 => k_asm); (case k5 => k_asm); (case k6 => k_is); (case k7 => k_is); (case k8 => ktr_room); (case k9 => first | exact BindsTo.of_eq rfl | exact binds_K (by k_in) rfl (by k_is) rfl rfl rfl); (case c5 => decide); (case kB => exact locs rfl); (case c2 => exact rfl); (case c3 => exact rfl); (case c4 => exact rfl); k_whole; intro zg' zL' zh' zFG' zF' zN' zB' zX' zT'; (try dsimp only); (try k_lift zB'); (try k_fold))
    k_steps
    repeat (any_goals (unfold Stop; (k_dflt (refine' bucket_make (by exact ⟨by k_asm, by k_asm, by k_asm, by k_asm, by rfl, by ktr_room, by first | ktr_units | ((try simp only [units_deeper, units_under_make]); (try dsimp only [ktrTop]); omega)⟩) (by k_asm) (by ktr_room) (by first | ktr_units | ((try simp only [units_deeper, units_under_make]); (try dsimp only [ktrTop]); omega)) (by first | assumption | decide | omega) (by assumption) (by assumption) ?_)); k_whole; intro zk1 zv1 zk2 zv2 zk3 zv3 zk4 zv4 zb zd zh ztk zl1 zl2 zF zN; (have zl3 := zl1 _ (.head _)); (have zl4 := zl1 _ (.tail _ (.head _))); dsimp only at zl3 zl4; dsimp only [bk] at zN; (try k_lt zl1); k_steps))
    (rename News _ _ _ _ => kN9)
    (rename Fr _ _ _ _ => kF9)
    exact ret ⟨_, _, _, _, _, _, _, _, _, _, _, _, _, _, _, _, _, _, _⟩ _ _ _ _ _ _ _ _ l1' (by omega) (by omega) (by omega) (by omega) (by omega) kF9 kN9)
set_option maxRecDepth 100000 in
set_option maxHeartbeats 4000000 in
/-- `TwoRate(rate, burst, peak, peak_burst, is_aware)` -/
theorem two_make {rate burst peak other : Int} {aw : Bool} {t1 t2 t3 t4 : Tok} {rest : List (Addr × Obj)}
    (C : Cal w lo me mg mb dp un csc A₀ base outer h₀ L s.heap m) (N : News h₀ L s.heap rest) (hdp : dp + 40 < recursionLimit) (hun : un + 400 < cLine) (h1 : 0 ≤ rate) (h2 : rate ≤ peak) (h3 : 1 ≤ burst) (h4 : burst ≤ 70) (h5 : 1 ≤ other) (h6 : other ≤ 70)
    (ret : ∀ (T : PTok) (x dx b1 d1 b2 d2 : Nat) h' tk', (∀ p ∈ rest, p.1 < dx) → dx < x → x < d1 → d1 < b1 → b1 < d2 → d2 < b2 → Fr h₀ L h' m →
      News h₀ L h' ((b2, instObj 127 d2) :: (d2, bk w T.k21 T.v21 T.k22 T.v22 T.k23 T.v23 T.k24 T.v24 peak other (other * 100) 0) :: (b1, instObj 127 d1) :: (d1, bk w T.k11 T.v11 T.k12 T.v12 T.k13 T.v13 T.k14 T.v14 rate burst (burst * 100) 0) :: (x, instObj 195 dx) :: (dx, tw w T.k1 T.k2 T.k3 b1 b2 aw) :: rest) →
      Q (.ref x) { s with heap := h', toks := tk' }) :
    wpAny (model PySem.Challenge.rw_pc0363_01.row.prog w) (ktrTop dp un gd cn csc L a ccd cl outer) (call (.ref 195) [.int rate t1, .int burst t2, .int peak t3, .int other t4, .bool aw]) Q E s := by
  obtain ⟨B, F, X, T, hk, _, _⟩ := C
  w_on
  w_strict (
    (revert X; k_fill; intro X)
    k_dflt (refine' call_cls ?k1 ?k2 ?k3 ?k4 ?k5 ?k6 ?_; (case k1 => k_asm); (case k2 => k_asm); (case k3 => k_asm); (case k4 => k_is); (case k5 => k_is); (case k6 => k_is))
    intro x d h1 F1 N1 l1 l2
    have l1' := l1
    (try k_lt2 l2)
    (try k_sweep)
    k_dflt (refine' code_def ?k1 ?k2 ?k3 ?k4 ?k5 ?kA ?kF ?kK ?k6 ?k7 ?k8 ?k9 ?kB ?_ ?c2 ?c3 ?c4 ?c5; (case kA => exact rfl); (case kF => exact rfl); (case kK => assumption); (case k1 => k_asm); (case k2 => k_asm); (case k3 => k_asm); (case k4 => k_asm); (case k5 => k_asm); (case k6 => k_is); (case k7 => k_is); (case k8 => ktr_room); (case k9 => first | exact BindsTo.of_eq rfl | exact binds_K (by k_in) rfl (by k_is) rfl rfl rfl); (case c5 => decide); (case kB => exact locs rfl); (case c2 => exact rfl); (case c3 => exact rfl); (case c4 => exact rfl); k_whole; intro zg' zL' zh' zFG' zF' zN' zB' zX' zT'; (try dsimp only); (try k_lift zB'); (try k_fold))
    k_steps
    repeat (any_goals (unfold Stop; (k_dflt (refine' bucket_make (by exact ⟨by k_asm, by k_asm, by k_asm, by k_asm, by rfl, by ktr_room, by first | ktr_units | ((try simp only [units_deeper, units_under_make]); (try dsimp only [ktrTop]); omega)⟩) (by k_asm) (by ktr_room) (by first | ktr_units | ((try simp only [units_deeper, units_under_make]); (try dsimp only [ktrTop]); omega)) (by first | assumption | decide | omega) (by assumption) (by assumption) ?_)); k_whole; intro zk1 zv1 zk2 zv2 zk3 zv3 zk4 zv4 zb zd zh ztk zl1 zl2 zF zN; (have zl3 := zl1 _ (.head _)); (have zl4 := zl1 _ (.tail _ (.head _))); dsimp only at zl3 zl4; dsimp only [bk] at zN; (try k_lt zl1); k_steps))
    (rename News _ _ _ _ => kN9)
    (rename Fr _ _ _ _ => kF9)
    exact ret ⟨_, _, _, _, _, _, _, _, _, _, _, _, _, _, _, _, _, _, _⟩ _ _ _ _ _ _ _ _ l1' (by omega) (by omega) (by omega) (by omega) (by omega) kF9 kN9)
set_option maxRecDepth 100000 in
set_option maxHeartbeats 4000000 in
/-- `SingleRate(rate, burst, other)` -/
theorem single_make0 {rate burst other : Int} {t1 t2 t3 : Tok} {rest : List (Addr × Obj)}
    (C : Cal w lo me mg mb dp un csc A₀ base outer h₀ L s.heap m) (N : News h₀ L s.heap rest) (hdp : dp + 40 < recursionLimit) (hun : un + 400 < cLine) (h1 : 0 ≤ rate) (h3 : 1 ≤ burst) (h4 : burst ≤ 70) (h5 : 1 ≤ other) (h6 : other ≤ 70)
    (ret : ∀ (T : PTok) (x dx b1 d1 b2 d2 : Nat) h' tk', (∀ p ∈ rest, p.1 < dx) → dx < x → x < d1 → d1 < b1 → b1 < d2 → d2 < b2 → Fr h₀ L h' m →
      News h₀ L h' ((b2, instObj 127 d2) :: (d2, bk w T.k21 T.v21 T.k22 T.v22 T.k23 T.v23 T.k24 T.v24 0 other (other * 100) 0) :: (b1, instObj 127 d1) :: (d1, bk w T.k11 T.v11 T.k12 T.v12 T.k13 T.v13 T.k14 T.v14 rate burst (burst * 100) 0) :: (x, instObj 165 dx) :: (dx, sg w T.k1 T.k2 T.k3 b1 b2 false) :: rest) →
      Q (.ref x) { s with heap := h', toks := tk' }) :
    wpAny (model PySem.Challenge.rw_pc0363_01.row.prog w) (ktrTop dp un gd cn csc L a ccd cl outer) (call (.ref 165) [.int rate t1, .int burst t2, .int other t3]) Q E s := by
  obtain ⟨B, F, X, T, hk, _, _⟩ := C
  w_on
  w_strict (
    (revert X; k_fill; intro X)
    k_dflt (refine' call_cls ?k1 ?k2 ?k3 ?k4 ?k5 ?k6 ?_; (case k1 => k_asm); (case k2 => k_asm); (case k3 => k_asm); (case k4 => k_is); (case k5 => k_is); (case k6 => k_is))
    intro x d h1 F1 N1 l1 l2
    have l1' := l1
    (try k_lt2 l2)
    (try k_sweep)
    k_dflt (refine' code_def ?k1 ?k2 ?k3 ?k4 ?k5 ?kA ?kF ?kK ?k6 ?k7 ?k8 ?k9 ?kB ?_ ?c2 ?c3 ?c4 ?c5; (case kA => exact rfl); (case kF => exact rfl); (case kK => assumption); (case k1 => k_asm); (case k2 => k_asm); (case k3 => k_asm); (case k4 => k_asm); (case k5 => k_asm); (case k6 => k_is); (case k7 => k_is); (case k8 => ktr_room); (case k9 => first | exact BindsTo.of_eq rfl | exact binds_K (by k_in) rfl (by k_is) rfl rfl rfl); (case c5 => decide); (case kB => exact locs rfl); (case c2 => exact rfl); (case c3 => exact rfl); (case c4 => exact rfl); k_whole; intro zg' zL' zh' zFG' zF' zN' zB' zX' zT'; (try dsimp only); (try k_lift zB'); (try k_fold))
    k_steps
    repeat (any_goals (unfold Stop; (k_dflt (refine' bucket_make (by exact ⟨by k_asm, by k_asm, by k_asm, by k_asm, by rfl, by ktr_room, by first | ktr_units | ((try simp only [units_deeper, units_under_make]); (try dsimp only [ktrTop]); omega)⟩) (by k_asm) (by ktr_room) (by first | ktr_units | ((try simp only [units_deeper, units_under_make]); (try dsimp only [ktrTop]); omega)) (by first | assumption | decide | omega) (by assumption) (by assumption) ?_)); k_whole; intro zk1 zv1 zk2 zv2 zk3 zv3 zk4 zv4 zb zd zh ztk zl1 zl2 zF zN; (have zl3 := zl1 _ (.head _)); (have zl4 := zl1 _ (.tail _ (.head _))); dsimp only at zl3 zl4; dsimp only [bk] at zN; (try k_lt zl1); k_steps))
    (rename News _ _ _ _ => kN9)
    (rename Fr _ _ _ _ => kF9)
    exact ret ⟨_, _, _, _, _, _, _, _, _, _, _, _, _, _, _, _, _, _, _⟩ _ _ _ _ _ _ _ _ l1' (by omega) (by omega) (by omega) (by omega) (by omega) kF9 kN9)
end
structure PAd where
  (own dx x d1 b1 d2 b2 : Nat)
/-- what one pair holds: the policer, its two buckets, the law's own dict -/
abbrev blk1 (w : World) (A : PAd) (aw : Bool) (T : PTok) (r1 u1 r2 u2 : Int) (o : Obj) (v13 v14 v23 v24 : Tok) (g1 t1 g2 t2 : Int) (l : List (Addr × Obj)) : List (Addr × Obj) :=
  (A.b2, instObj 127 A.d2) :: (A.d2, bk w T.k21 T.v21 T.k22 T.v22 T.k23 v23 T.k24 v24 r2 u2 g2 t2) :: (A.b1, instObj 127 A.d1) :: (A.d1, bk w T.k11 T.v11 T.k12 T.v12 T.k13 v13 T.k14 v14 r1 u1 g1 t1) :: (A.x, instObj 165 A.dx) :: (A.dx, sg w T.k1 T.k2 T.k3 A.b1 A.b2 aw) :: (A.own, o) :: l
abbrev blk2 (w : World) (A : PAd) (aw : Bool) (T : PTok) (r1 u1 r2 u2 : Int) (o : Obj) (v13 v14 v23 v24 : Tok) (g1 t1 g2 t2 : Int) (l : List (Addr × Obj)) : List (Addr × Obj) :=
  (A.b2, instObj 127 A.d2) :: (A.d2, bk w T.k21 T.v21 T.k22 T.v22 T.k23 v23 T.k24 v24 r2 u2 g2 t2) :: (A.b1, instObj 127 A.d1) :: (A.d1, bk w T.k11 T.v11 T.k12 T.v12 T.k13 v13 T.k14 v14 r1 u1 g1 t1) :: (A.x, instObj 195 A.dx) :: (A.dx, tw w T.k1 T.k2 T.k3 A.b1 A.b2 aw) :: (A.own, o) :: l
/-- the tuple of one pair -/
abbrev tupO (A : PAd) (f t : Addr) (aw : Bool) : Obj := { cls := .type "tuple", data := .seq [Value.ref A.x, .ref A.own, .ref f, .ref t, .bool aw].toArray }
/-- growing addresses -/
def incF : Nat → List Nat → Prop
  | _, [] => True
  | a, b :: r => a < b ∧ incF b r
def inc : List Nat → Prop
  | [] => True
  | a :: r => incF a r
/-- the body of the loop of `_law_pairs`, and its scope -/
def pairsOf (p : Program) : Option (List PySem.Stmt × Scope) :=
  match (p.main.body.reverse[3]? : Option PySem.Stmt) with
  | some (PySem.Stmt.FunctionDef _ _ b _ _ _ sc _ _ _) => match (b[1]? : Option PySem.Stmt) with
    | some (PySem.Stmt.For _ _ ib _ _) => some (ib, sc)
    | _ => none
  | _ => none
theorem sub_ix {α : Type} {l c : List α} {π : List Nat} (h : l.map some = π.map fun i => c[i]?) {z : α} (hz : z ∈ l) : z ∈ c := by
  have h1 : some z ∈ l.map some := List.mem_map_of_mem hz
  rw [h] at h1
  obtain ⟨i, _, e⟩ := List.mem_map.mp h1
  exact List.mem_of_getElem? e
theorem fr_kstB {g h : Heap} {L : Addr} {m : Str → Option Value} {ps : List (Str × Value)} (F : Fr g L h m) (hm : ∀ p ∈ ps, m p.1 = some p.2) : Fr g L h (kstB m ps) := by
  have e : kstB m ps = m := funext fun z => kstB_eq hm fun _ => rfl
  rw [e]
  exact F
theorem allLt_at {d : Addr} : ∀ {l : List (Addr × Obj)}, AllLt d l → ∀ p ∈ l, p.1 < d
  | [], _, _, hp => nomatch hp
  | q :: r, h, p, hp => by
    obtain ⟨h1, h2⟩ := (h : q.1 < d ∧ AllLt d r)
    cases hp with
    | head => exact h1
    | tail _ hp => exact allLt_at h2 p hp
theorem fr_own {g h : Heap} {L : Addr} {m : Str → Option Value} {ps : List (Str × Value)} {u v : Value} {x : Str} (hm : ∀ p ∈ ps, m p.1 = some p.2) (F : Fr g L h (fun y => if y = x then some v else if y = x then some u else kstB m ps y)) :
    Fr g L h (fun y => if y = x then some v else m y) := by
  have e : (fun y => if y = x then some v else if y = x then some u else kstB m ps y) = fun y => if y = x then some v else m y := funext fun y => by
    by_cases q : y = x
    · simp [q]
    · simp only [if_neg q]; exact kstB_eq hm fun _ => rfl
  rw [e] at F
  exact F
section
variable {w : World} {lo : List Str} {me : ExcName → Option Value} {mg mb : Str → Option Value}
    {dp un : Nat} {gd : Option (List Code)} {cn : Str} {csc : Scope} {a : Addr} {ccd : Value} {cl : List (Str × Addr)} {outer : List Env} {A₀ : Around} {base h₀ : Heap} {L : Addr} {m : Str → Option Value} {s : Shared} {Q E : Value → Shared → Prop} {R : Flow → Shared → Prop}
local macro_rules | `(tactic| walk_at "mine pad") => `(tactic| fail "pad")
local macro_rules | `(tactic| walk_at "call ref") => `(tactic| (k_here; refine stop ?_))
set_option maxRecDepth 100000 in
set_option maxHeartbeats 8000000 in
/-- one turn: two pairs more -/
theorem pair_turn {ib : List Stmt} {sc : Scope} (hib : pairsOf PySem.Challenge.pw_pc0363_01 = some (ib, sc)) {b : Heap} {L₂ l n : Nat} {u : Str → Option Value} {aw : Bool} {its : Array Value} {tail : List (Addr × Obj)}
    {rate burst peak other : Int} {t1 t2 t3 t4 : Tok}
    (B : Below (ktrTop dp un gd cn csc L a ccd cl outer) base (envX cn csc L a ccd cl :: outer) b) (X : (Mine.hd.heap_39 w.params).In b) (T : Top topProg lo me mg mb b)
    (F : Fr b L₂ s.heap u) (hm : ∀ p ∈ [(Str.ofString "rate", Value.int rate t1), (Str.ofString "burst", Value.int burst t2), (Str.ofString "peak", Value.int peak t3), (Str.ofString "other", Value.int other t4), (Str.ofString "found", Value.ref l), (Str.ofString "is_aware", Value.bool aw)], u p.1 = some p.2)
    (N : News b L₂ s.heap ((l, PySem.W.listOf its n) :: tail)) (hT : ∀ p ∈ tail, p.1 ≠ l) (hz : its.size ≤ 8)
    (h1 : 0 ≤ rate) (h3 : 1 ≤ burst) (h4 : burst ≤ 64) (h4' : burst ≤ 70) (h5 : rate ≤ peak) (h7 : 1 ≤ other) (h8 : other ≤ 70) (hdp : dp + 50 < recursionLimit) (hun : un + 500 < cLine)
    (ret : ∀ (T0 T1 : PTok) (A0 A1 : PAd) (q0 q1 : Nat) (o0 o1 : Obj) h' tk', (∀ p ∈ tail, p.1 < A0.own) →
      inc [l, A0.own, A0.dx, A0.x, A0.d1, A0.b1, A0.d2, A0.b2, q0, A1.own, A1.dx, A1.x, A1.d1, A1.b1, A1.d2, A1.b2, q1] → (A0.own == sysModules) = false → (A1.own == sysModules) = false →
      DI w o0 (OwnD rate (100 * burst) peak (100 * other) (100 * burst) (100 * other)) → DI w o1 (OwnD rate (100 * burst) peak (100 * other) (100 * burst) (100 * other)) →
      Fr b L₂ h' (fun y => if y = Str.ofString "own" then some (.ref A1.own) else u y) →
      News b L₂ h' ((q1, tupO A1 234 248 aw) :: blk2 w A1 aw T1 rate burst peak other o1 T1.v13 T1.v14 T1.v23 T1.v24 (burst * 100) 0 (other * 100) 0
        ((q0, tupO A0 227 241 aw) :: blk1 w A0 aw T0 rate burst 0 other o0 T0.v13 T0.v14 T0.v23 T0.v24 (burst * 100) 0 (other * 100) 0
        ((l, PySem.W.listOf ((its.push (.ref q0)).push (.ref q1)) (n + 1 + 1)) :: tail))) → R .next { s with heap := h', toks := tk' }) :
    wpAny (model PySem.Challenge.rw_pc0363_01.row.prog w) ((ktrTop dp un gd cn csc L a ccd cl outer).deeper (envOf (Str.ofString "_law_pairs") sc L₂ 262 (.ref 261))) (execs ib (envOf (Str.ofString "_law_pairs") sc L₂ 262 (.ref 261))) R E s := by
  have hib2 := Option.some.inj (hib : some _ = some (ib, sc))
  cases hib2
  have F1 := fr_kstB F hm
  dsimp only [kstB] at F1
  clear F
  have hl0 : ∀ p ∈ (l, PySem.W.listOf its n) :: tail, p.1 < s.heap.objs.size := fun p hp => Heap.lt_size (N p hp).1
  w_on
  w_strict (
    (revert X; k_fill; intro X)
    (try k_fold)
    k_steps
    repeat (any_goals (unfold Stop; (first | (k_dflt (refine' two_make (by exact ⟨by k_asm, by k_asm, by k_asm, by k_asm, by rfl, by ktr_room, by ktr_units⟩) (by k_asm) (by ktr_room) (by ktr_units) (by assumption) (by assumption) (by assumption) (by assumption) (by assumption) (by assumption) ?_); k_whole; intro zT9 zx9 zdx9 zb19 zd19 zb29 zd29 zh9 ztk9 zl1 zl2 zl3 zl4 zl5 zl6 zF9 zN9; (try dsimp only [bk, tw] at zN9); (try k_lt zl1); (try k_sweep)) | (k_dflt (refine' single_make (by exact ⟨by k_asm, by k_asm, by k_asm, by k_asm, by rfl, by ktr_room, by ktr_units⟩) (by k_asm) (by ktr_room) (by ktr_units) (by assumption) (by assumption) (by assumption) (by assumption) (by assumption) ?_); k_whole; intro zT9 zx9 zdx9 zb19 zd19 zb29 zd29 zh9 ztk9 zl1 zl2 zl3 zl4 zl5 zl6 zF9 zN9; (try dsimp only [bk, sg] at zN9); (try k_lt zl1); (try k_sweep)) | (k_dflt (refine' own_call (by exact ⟨by k_asm, by k_asm, by k_asm, by k_asm, by rfl, by ktr_room, by ktr_units⟩) (by k_asm) (by assumption) (by assumption) (by assumption) (by assumption) ?_); k_whole; intro zd9 zo9 zh9 ztk9 zl1 zlo9 zhD9 zF9 zN9; (try k_lt zl1); (try k_sweep))); k_steps))
    (rename News _ _ _ _ => kN9)
    (rename Fr _ _ _ _ => kF9)
    refine' ret _ _ ⟨_, _, _, _, _, _, _⟩ ⟨_, _, _, _, _, _, _⟩ _ _ _ _ _ _ ?e1 ?e2 ?e3 ?e4 ?e5 ?e6 (fr_own hm kF9) kN9
    (case e1 => (with_reducible rename (_ < _) ∧ AllLt _ _ => hA9); exact allLt_at hA9.2)
    (case e2 => simp only [inc, incF, and_true]; omega)
    all_goals assumption)
end
section
variable {w : World} {lo : List Str} {me : ExcName → Option Value} {mg mb : Str → Option Value}
    {dp un : Nat} {gd : Option (List Code)} {cn : Str} {csc : Scope} {a : Addr} {ccd : Value} {cl : List (Str × Addr)} {outer : List Env} {A₀ : Around} {base h₀ : Heap} {L : Addr} {m : Str → Option Value} {s : Shared} {Q E : Value → Shared → Prop}
local macro_rules | `(tactic| walk_at "mine pad") => `(tactic| fail "pad")
local macro_rules | `(tactic| walk_at "mine pad") => `(tactic| fail)
local macro_rules | `(tactic| walk_at "execs cons") => `(tactic| (k_here; (with_reducible show wpAny _ _ (execs [_, _, _, _] _) _ _ _); refine stop ?_))
set_option maxRecDepth 100000 in
set_option maxHeartbeats 8000000 in
/-- `_law_pairs(rate, burst, peak, other)` -/
theorem pairs_call {rate burst peak other : Int} {t1 t2 t3 t4 : Tok} {sd gt : Nat} {so go : Obj}
    (C : Cal w lo me mg mb dp un csc A₀ base outer h₀ L s.heap m) (N : News h₀ L s.heap [(sd, so), (gt, go)])
    (h1 : 0 ≤ rate) (h3 : 1 ≤ burst) (h4 : burst ≤ 64) (h4' : burst ≤ 70) (h5 : rate ≤ peak) (h7 : 1 ≤ other) (h8 : other ≤ 70) (hdp : dp + 50 < recursionLimit) (hun : un + 500 < cLine)
    (ret : ∀ (T0 T1 T2 T3 : PTok) (A0 A1 A2 A3 : PAd) (q0 q1 q2 q3 l l2 : Nat) (lo2 : Obj) (o0 o1 o2 o3 : Obj) h' tk', sd < l → gt < l →
      inc [l, A0.own, A0.dx, A0.x, A0.d1, A0.b1, A0.d2, A0.b2, q0, A1.own, A1.dx, A1.x, A1.d1, A1.b1, A1.d2, A1.b2, q1, A2.own, A2.dx, A2.x, A2.d1, A2.b1, A2.d2, A2.b2, q2, A3.own, A3.dx, A3.x, A3.d1, A3.b1, A3.d2, A3.b2, q3] →
      (A0.own == sysModules) = false → (A1.own == sysModules) = false → (A2.own == sysModules) = false → (A3.own == sysModules) = false →
      DI w o0 (OwnD rate (100 * burst) peak (100 * other) (100 * burst) (100 * other)) → DI w o1 (OwnD rate (100 * burst) peak (100 * other) (100 * burst) (100 * other)) →
      DI w o2 (OwnD rate (100 * burst) peak (100 * other) (100 * burst) (100 * other)) → DI w o3 (OwnD rate (100 * burst) peak (100 * other) (100 * burst) (100 * other)) →
      Fr h₀ L h' m →
      News h₀ L h' ((q3, tupO A3 234 248 true) :: blk2 w A3 true T3 rate burst peak other o3 T3.v13 T3.v14 T3.v23 T3.v24 (burst * 100) 0 (other * 100) 0
        ((q2, tupO A2 227 241 true) :: blk1 w A2 true T2 rate burst 0 other o2 T2.v13 T2.v14 T2.v23 T2.v24 (burst * 100) 0 (other * 100) 0
        ((q1, tupO A1 234 248 false) :: blk2 w A1 false T1 rate burst peak other o1 T1.v13 T1.v14 T1.v23 T1.v24 (burst * 100) 0 (other * 100) 0
        ((q0, tupO A0 227 241 false) :: blk1 w A0 false T0 rate burst 0 other o0 T0.v13 T0.v14 T0.v23 T0.v24 (burst * 100) 0 (other * 100) 0
        [(l2, lo2), (l, PySem.W.listOf [Value.ref q0, .ref q1, .ref q2, .ref q3].toArray 4), (sd, so), (gt, go)])))) →
      Q (.ref l) { s with heap := h', toks := tk' }) :
    wpAny (model PySem.Challenge.rw_pc0363_01.row.prog w) (ktrTop dp un gd cn csc L a ccd cl outer) (call (.ref 262) [.int rate t1, .int burst t2, .int peak t3, .int other t4]) Q E s := by
  obtain ⟨B, F, X, T, hk, _, _⟩ := C
  w_on
  w_strict (
    (revert X; k_fill; intro X)
    refine wpAny_call ?_
    k_dflt (refine' code_def ?k1 ?k2 ?k3 ?k4 ?k5 ?kA ?kF ?kK ?k6 ?k7 ?k8 ?k9 ?kB ?_ ?c2 ?c3 ?c4 ?c5; (case kA => exact rfl); (case kF => exact rfl); (case kK => assumption); (case k1 => k_asm); (case k2 => k_asm); (case k3 => k_asm); (case k4 => k_asm); (case k5 => k_asm); (case k6 => k_is); (case k7 => k_is); (case k8 => ktr_room); (case k9 => first | exact BindsTo.of_eq rfl | exact binds_K (by k_in) rfl (by k_is) rfl rfl rfl); (case c5 => decide); (case kB => exact locs rfl); (case c2 => exact rfl); (case c3 => exact rfl); (case c4 => exact rfl); k_whole; intro zg' zL' zh' zFG' zF' zN' zB' zX' zT'; (try dsimp only); (try k_lift zB'); (try k_fold))
    k_steps
    unfold Stop
    (rename News _ _ _ _ => kN9)
    (rename Fr _ _ _ _ => kF9)
    have kM1 : News _ _ _ ((_, _) :: (_, _) :: (_, _) :: (_, _) :: (_, _) :: []) := fun p hp => kN9 p (sub_ix (π := [2, 0, 1, 3, 4]) rfl hp)
    refine' pair_turn (aw := false) rfl (by assumption) (by assumption) (by assumption) kF9 ?g1 kM1 ?g2 ?g3 h1 h3 h4 h4' h5 h7 h8 hdp hun ?_
    (case g1 => (intro p hp; simp only [List.mem_cons, List.not_mem_nil, or_false] at hp; rcases hp with rfl | rfl | rfl | rfl | rfl | rfl <;> with_unfolding_all rfl))
    (case g2 => (intro p hp; simp only [List.mem_cons, List.not_mem_nil, or_false] at hp; rcases hp with rfl | rfl | rfl | rfl <;> first | exact Nat.ne_of_gt (by omega) | exact Nat.ne_of_lt (by omega)))
    (case g3 => decide)
    intro T0 T1 A0 A1 q0 q1 o0 o1 hA5 tk5 e1 e2 e3 e4 d0 d1 F5 N5
    have e5 : @LT.lt Nat _ _ A0.own := e1 _ (.head _)
    dsimp only at e5
    simp only [inc, incF, and_true] at e2
    dsimp only [blk1, blk2] at N5
    clear kN9 kM1 kF9
    show UnrEnd _ _ _ _ _ _ _
    refine UnrEnd.intro (by assumption) N5 ((_, _) :: (_, _) :: (_, _) :: (_, _) :: (_, _) :: (_, _) :: (_, _) :: (_, _) :: (_, _) :: (_, _) :: (_, _) :: (_, _) :: (_, _) :: (_, _) :: (_, _) :: (_, _) :: (_, _) :: (_, _) :: (_, _) :: (_, _) :: []) (fun p hp => sub_ix (π := [17, 0, 1, 2, 3, 4, 5, 6, 7, 8, 9, 10, 11, 12, 13, 14, 15, 16, 18, 19, 20]) rfl hp) ?w1 ⟨by repeat (first | exact .head _ | apply List.Mem.tail), ?_⟩
    (case w1 => (intro p hp; simp only [List.mem_cons, List.not_mem_nil, or_false] at hp; rcases hp with rfl | rfl | rfl | rfl | rfl | rfl | rfl | rfl | rfl | rfl | rfl | rfl | rfl | rfl | rfl | rfl | rfl | rfl | rfl | rfl <;> first | exact Nat.ne_of_gt (by omega) | exact Nat.ne_of_lt (by omega)))
    k_steps
    unfold Stop
    (rename News _ _ _ _ => kN9)
    (rename Fr _ _ _ _ => kF9)
    have kM2 : News _ _ _ ((_, _) :: (_, _) :: (_, _) :: (_, _) :: (_, _) :: (_, _) :: (_, _) :: (_, _) :: (_, _) :: (_, _) :: (_, _) :: (_, _) :: (_, _) :: (_, _) :: (_, _) :: (_, _) :: (_, _) :: (_, _) :: (_, _) :: (_, _) :: (_, _) :: []) := fun p hp => kN9 p (sub_ix (π := [17, 0, 1, 2, 3, 4, 5, 6, 7, 8, 9, 10, 11, 12, 13, 14, 15, 16, 18, 19, 20]) rfl hp)
    refine' pair_turn (aw := true) rfl (by assumption) (by assumption) (by assumption) kF9 ?g4 kM2 ?g5 ?g6 h1 h3 h4 h4' h5 h7 h8 hdp hun ?_
    (case g4 => (intro p hp; simp only [List.mem_cons, List.not_mem_nil, or_false] at hp; rcases hp with rfl | rfl | rfl | rfl | rfl | rfl <;> with_unfolding_all rfl))
    (case g5 => (intro p hp; simp only [List.mem_cons, List.not_mem_nil, or_false] at hp; rcases hp with rfl | rfl | rfl | rfl | rfl | rfl | rfl | rfl | rfl | rfl | rfl | rfl | rfl | rfl | rfl | rfl | rfl | rfl | rfl | rfl <;> first | exact Nat.ne_of_gt (by omega) | exact Nat.ne_of_lt (by omega)))
    (case g6 => (simp only [Array.size_push]; decide))
    intro T2 T3 A2 A3 q2 q3 o2 o3 hB5 tk6 f1 f2 f3 f4 d2 d3 F6 N6
    have f5 : @LT.lt Nat _ _ A2.own := f1 _ (.head _)
    have f6 : q1 < A2.own := f1 (q1, _) (by repeat (first | exact .head _ | apply List.Mem.tail))
    dsimp only at f5
    simp only [inc, incF, and_true] at f2
    dsimp only [blk1, blk2] at N6
    clear kN9 kM2 kF9
    show UnrEnd _ _ _ _ _ _ _
    refine UnrEnd.intro (by assumption) N6 ((_, _) :: (_, _) :: (_, _) :: (_, _) :: (_, _) :: (_, _) :: (_, _) :: (_, _) :: (_, _) :: (_, _) :: (_, _) :: (_, _) :: (_, _) :: (_, _) :: (_, _) :: (_, _) :: (_, _) :: (_, _) :: (_, _) :: (_, _) :: (_, _) :: (_, _) :: (_, _) :: (_, _) :: (_, _) :: (_, _) :: (_, _) :: (_, _) :: (_, _) :: (_, _) :: (_, _) :: (_, _) :: (_, _) :: (_, _) :: (_, _) :: (_, _) :: []) (fun p hp => sub_ix (π := [17, 0, 1, 2, 3, 4, 5, 6, 7, 8, 9, 10, 11, 12, 13, 14, 15, 18, 19, 20, 21, 22, 23, 24, 25, 26, 27, 28, 29, 30, 31, 32, 33, 34, 16, 35, 36]) rfl hp) ?w2 ⟨by repeat (first | exact .head _ | apply List.Mem.tail), ?_⟩
    (case w2 => (intro p hp; simp only [List.mem_cons, List.not_mem_nil, or_false] at hp; rcases hp with rfl | rfl | rfl | rfl | rfl | rfl | rfl | rfl | rfl | rfl | rfl | rfl | rfl | rfl | rfl | rfl | rfl | rfl | rfl | rfl | rfl | rfl | rfl | rfl | rfl | rfl | rfl | rfl | rfl | rfl | rfl | rfl | rfl | rfl | rfl | rfl <;> first | exact Nat.ne_of_gt (by omega) | exact Nat.ne_of_lt (by omega)))
    k_steps
    (rename News _ _ _ _ => kN9)
    (rename Fr _ _ _ _ => kF9)
    refine' ret _ _ _ _ ⟨_, _, _, _, _, _, _⟩ ⟨_, _, _, _, _, _, _⟩ ⟨_, _, _, _, _, _, _⟩ ⟨_, _, _, _, _, _, _⟩ _ _ _ _ _ _ _ _ _ _ _ _ _ ?r1 ?r2 ?r3 ?r4 ?r5 ?r6 ?r7 ?r8 ?r9 ?r10 ?r11 kF9 kN9
    (case r1 => omega)
    (case r2 => omega)
    (case r3 => simp only [inc, incF, and_true]; omega)
    all_goals assumption)
end
theorem turn1' {now rate u1 g1 t1 u2 g2 t2 f s size : Int} {k : Nat} {c0 c c1 c2 : Col} {g1' t1' g2' t2' f' s' : Int} (hr : 0 ≤ rate) (hsz : 0 ≤ size) (I : I1 now rate u1 g1 t1 u2 g2 t2 f s)
    (hR : R1 c0 size (now + (k : Int)) rate u1 g1 t1 0 u2 g2 t2 c1 g1' t1' g2' t2') (hT : T1 c size (itA rate (100 * u1) (100 * u2) k (f, s)).1 (itA rate (100 * u1) (100 * u2) k (f, s)).2 c2 f' s') (hc : c0 = c) :
    c1 = c2 ∧ I1 (now + (k : Int)) rate u1 g1' t1' u2 g2' t2' f' s' ∧ f' + gv c2 size ≤ f + rate * (k : Int) := by
  subst hc
  exact turn1 hr hsz I hR hT
theorem turn2' {now r1 u1 g1 t1 r2 u2 g2 t2 f s size : Int} {k : Nat} {c0 c c1 c2 : Col} {g1' t1' g2' t2' f' s' : Int} (hr : 0 ≤ r1) (hp : 0 ≤ r2) (hsz : 0 ≤ size) (I : I2 now r1 u1 g1 t1 r2 u2 g2 t2 f s)
    (hR : R2 c0 size (now + (k : Int)) r1 u1 g1 t1 r2 u2 g2 t2 c1 g1' t1' g2' t2') (hT : T2 c size (itB r1 (100 * u1) r2 (100 * u2) k (f, s)).1 (itB r1 (100 * u1) r2 (100 * u2) k (f, s)).2 c2 f' s') (hc : c0 = c) :
    c1 = c2 ∧ I2 (now + (k : Int)) r1 u1 g1' t1' r2 u2 g2' t2' f' s' := by
  subst hc
  exact turn2 hr hp hsz I hR hT
section
variable {w : World} {lo : List Str} {me : ExcName → Option Value} {mg mb : Str → Option Value}
    {dp un : Nat} {gd : Option (List Code)} {cn : Str} {csc : Scope} {a : Addr} {ccd : Value} {cl : List (Str × Addr)} {outer : List Env} {A₀ : Around} {base h₀ : Heap} {L : Addr} {m : Str → Option Value} {s : Shared} {Q E : Value → Shared → Prop}
theorem filled1_callU {d : Addr} {o : Obj} {rate burst peak other f sec : Int} {k : Nat} {tn : Tok} {news : List (Addr × Obj)} {G : Obj → List (Addr × Obj)}
    (C : Cal w lo me mg mb dp un csc A₀ base outer h₀ L s.heap m) (N : News h₀ L s.heap news) (U : UpdF d o news G) (hs : (d == sysModules) = false) (hD : DI w o (OwnD rate burst peak other f sec)) (hk30 : k ≤ 30)
    (ret : ∀ o' h' tk', DI w o' (OwnD rate burst peak other (itA rate burst other k (f, sec)).1 (itA rate burst other k (f, sec)).2) →
      Fr h₀ L h' m → News h₀ L h' (G o') → Q .none { s with heap := h', toks := tk' }) :
    wpAny (model PySem.Challenge.rw_pc0363_01.row.prog w) (ktrTop dp un gd cn csc L a ccd cl outer) (call (.ref 227) [.ref d, .int (k : Int) tn]) Q E s := by
  obtain ⟨pre, post, rfl, hg, o1, o2⟩ := U.split
  refine filled1_call C (news_open N) (off_both o1 o2) hs hD hk30 fun o' h' tk' hD' F' N' => ret o' _ _ hD' F' ?_
  rw [hg]
  exact news_close N'
theorem filled2_callU {d : Addr} {o : Obj} {rate burst peak other f sec : Int} {k : Nat} {tn : Tok} {news : List (Addr × Obj)} {G : Obj → List (Addr × Obj)}
    (C : Cal w lo me mg mb dp un csc A₀ base outer h₀ L s.heap m) (N : News h₀ L s.heap news) (U : UpdF d o news G) (hs : (d == sysModules) = false) (hD : DI w o (OwnD rate burst peak other f sec)) (hk30 : k ≤ 30)
    (ret : ∀ o' h' tk', DI w o' (OwnD rate burst peak other (itB rate burst peak other k (f, sec)).1 (itB rate burst peak other k (f, sec)).2) →
      Fr h₀ L h' m → News h₀ L h' (G o') → Q .none { s with heap := h', toks := tk' }) :
    wpAny (model PySem.Challenge.rw_pc0363_01.row.prog w) (ktrTop dp un gd cn csc L a ccd cl outer) (call (.ref 234) [.ref d, .int (k : Int) tn]) Q E s := by
  obtain ⟨pre, post, rfl, hg, o1, o2⟩ := U.split
  refine filled2_call C (news_open N) (off_both o1 o2) hs hD hk30 fun o' h' tk' hD' F' N' => ret o' _ _ hD' F' ?_
  rw [hg]
  exact news_close N'
theorem tell1_callU {d : Addr} {o : Obj} {rate burst peak other f sec size : Int} {ts tb : Tok} {c : Col} {news : List (Addr × Obj)} {G : Obj → List (Addr × Obj)}
    (C : Cal w lo me mg mb dp un csc A₀ base outer h₀ L s.heap m) (N : News h₀ L s.heap news) (U : UpdF d o news G)
    (hs : (d == sysModules) = false) (hD : DI w o (OwnD rate burst peak other f sec)) (h5 : 0 ≤ size) (h6 : size ≤ 70)
    (ret : ∀ c' t o' f' sec' h' tk', T1 c size f sec c' f' sec' → DI w o' (OwnD rate burst peak other f' sec') →
      Fr h₀ L h' m → News h₀ L h' (G o') → Q (.str (cs c') t) { s with heap := h', toks := tk' }) :
    wpAny (model PySem.Challenge.rw_pc0363_01.row.prog w) (ktrTop dp un gd cn csc L a ccd cl outer) (call (.ref 241) [.ref d, .int size ts, .str (cs c) tb]) Q E s := by
  obtain ⟨pre, post, rfl, hg, o1, o2⟩ := U.split
  refine tell1_call C (news_open N) (off_both o1 o2) hs hD h5 h6 fun c' t o' f' sec' h' tk' hT hD' F' N' => ret c' t o' f' sec' _ _ hT hD' F' ?_
  rw [hg]
  exact news_close N'
theorem tell2_callU {d : Addr} {o : Obj} {rate burst peak other f sec size : Int} {ts tb : Tok} {c : Col} {news : List (Addr × Obj)} {G : Obj → List (Addr × Obj)}
    (C : Cal w lo me mg mb dp un csc A₀ base outer h₀ L s.heap m) (N : News h₀ L s.heap news) (U : UpdF d o news G)
    (hs : (d == sysModules) = false) (hD : DI w o (OwnD rate burst peak other f sec)) (h5 : 0 ≤ size) (h6 : size ≤ 70)
    (ret : ∀ c' t o' f' sec' h' tk', T2 c size f sec c' f' sec' → DI w o' (OwnD rate burst peak other f' sec') →
      Fr h₀ L h' m → News h₀ L h' (G o') → Q (.str (cs c') t) { s with heap := h', toks := tk' }) :
    wpAny (model PySem.Challenge.rw_pc0363_01.row.prog w) (ktrTop dp un gd cn csc L a ccd cl outer) (call (.ref 248) [.ref d, .int size ts, .str (cs c) tb]) Q E s := by
  obtain ⟨pre, post, rfl, hg, o1, o2⟩ := U.split
  refine tell2_call C (news_open N) (off_both o1 o2) hs hD h5 h6 fun c' t o' f' sec' h' tk' hT hD' F' N' => ret c' t o' f' sec' _ _ hT hD' F' ?_
  rw [hg]
  exact news_close N'
/-- a list of entries turned round -/
theorem news_turn {h₀ h : Heap} {L : Addr} {p1 p2 e1 e2 e3 e4 e5 e6 e7 : Addr × Obj} {l : List (Addr × Obj)} (N : News h₀ L h (p1 :: p2 :: e1 :: e2 :: e3 :: e4 :: e5 :: e6 :: e7 :: l)) :
    News h₀ L h (e5 :: e6 :: e3 :: e4 :: e1 :: e2 :: p1 :: p2 :: e7 :: l) := fun p hp => N p (by
  simp only [List.mem_cons] at hp ⊢
  rcases hp with h | h | h | h | h | h | h | h | h | h <;> simp only [h, true_or, or_true])
theorem news_back {h₀ h : Heap} {L : Addr} {p1 p2 e1 e2 e3 e4 e5 e6 e7 : Addr × Obj} {l : List (Addr × Obj)} (N : News h₀ L h (e5 :: e6 :: e3 :: e4 :: e1 :: e2 :: p1 :: p2 :: e7 :: l)) :
    News h₀ L h (p1 :: p2 :: e1 :: e2 :: e3 :: e4 :: e5 :: e6 :: e7 :: l) := fun p hp => N p (by
  simp only [List.mem_cons] at hp ⊢
  rcases hp with h | h | h | h | h | h | h | h | h | h <;> simp only [h, true_or, or_true])
theorem off3 {d : Addr} {p1 p2 p3 : Addr × Obj} {l : List (Addr × Obj)} (h1 : p1.1 ≠ d) (h2 : p2.1 ≠ d) (h3 : p3.1 ≠ d) (h : ∀ p ∈ l, p.1 ≠ d) : ∀ p ∈ p1 :: p2 :: p3 :: l, p.1 ≠ d :=
  List.forall_mem_cons.mpr ⟨h1, List.forall_mem_cons.mpr ⟨h2, List.forall_mem_cons.mpr ⟨h3, h⟩⟩⟩
theorem color1_callB {A : PAd} {T : PTok} {aw : Bool} {b : Option Col} {c : Col} {r1 u1 g1 t1 r2 u2 g2 t2 size now : Int} {o : Obj} {v13 v14 v23 v24 ts tn tb : Tok} {p1 p2 : Addr × Obj} {rest : List (Addr × Obj)}
    (C : Cal w lo me mg mb dp un csc A₀ base outer h₀ L s.heap m)
    (N : News h₀ L s.heap (p1 :: p2 :: blk1 w A aw T r1 u1 r2 u2 o v13 v14 v23 v24 g1 t1 g2 t2 rest))
    (hc : told aw b = c) (hdp : dp + 50 < recursionLimit) (hun : un + 500 < cLine)
    (n1 : ∀ p ∈ rest, p.1 ≠ A.d1) (n2 : ∀ p ∈ rest, p.1 ≠ A.d2) (m1 : p1.1 ≠ A.d1) (m2 : p1.1 ≠ A.d2) (m3 : p2.1 ≠ A.d1) (m4 : p2.1 ≠ A.d2) (hinc : inc [A.own, A.dx, A.x, A.d1, A.b1, A.d2, A.b2])
    (h1 : 0 ≤ r1) (h2 : r1 ≤ 400) (h3 : 1 ≤ u1) (h4 : u1 ≤ 70) (h5 : 0 ≤ r2) (h6 : r2 ≤ 400) (h7 : 1 ≤ u2) (h8 : u2 ≤ 70) (h9 : 0 ≤ size) (h10 : size ≤ 70)
    (ret : ∀ c' t v13' v14' v23' v24' g1' t1' g2' t2' h' tk', R1 c size now r1 u1 g1 t1 r2 u2 g2 t2 c' g1' t1' g2' t2' → Fr h₀ L h' m →
      News h₀ L h' (p1 :: p2 :: blk1 w A aw T r1 u1 r2 u2 o v13' v14' v23' v24' g1' t1' g2' t2' rest) → Q (.str (cs c') t) { s with heap := h', toks := tk' }) :
    wpAny (model PySem.Challenge.rw_pc0363_01.row.prog w) (ktrTop dp un gd cn csc L a ccd cl outer) (call (.ref 162) [.ref A.x, .int size ts, .int now tn, bv b tb]) Q E s := by
  simp only [inc, incF] at hinc
  exact color1_call C (news_turn N) hc hdp hun (off3 m1 m3 (neN (by omega)) n1) (off3 m2 m4 (neN (by omega)) n2) (neN (by omega)) (neN (by omega)) (neN (by omega)) (neN (by omega)) (neN (by omega)) (neN (by omega)) (neN (by omega)) (neN (by omega)) (neN (by omega))
    h1 h2 h3 h4 h5 h6 h7 h8 h9 h10 fun c' t v13' v14' v23' v24' g1' t1' g2' t2' h' tk' hR F' N' => ret c' t v13' v14' v23' v24' g1' t1' g2' t2' _ _ hR F' (news_back N')
theorem color2_callB {A : PAd} {T : PTok} {aw : Bool} {b : Option Col} {c : Col} {r1 u1 g1 t1 r2 u2 g2 t2 size now : Int} {o : Obj} {v13 v14 v23 v24 ts tn tb : Tok} {p1 p2 : Addr × Obj} {rest : List (Addr × Obj)}
    (C : Cal w lo me mg mb dp un csc A₀ base outer h₀ L s.heap m)
    (N : News h₀ L s.heap (p1 :: p2 :: blk2 w A aw T r1 u1 r2 u2 o v13 v14 v23 v24 g1 t1 g2 t2 rest))
    (hc : told aw b = c) (hdp : dp + 50 < recursionLimit) (hun : un + 500 < cLine)
    (n1 : ∀ p ∈ rest, p.1 ≠ A.d1) (n2 : ∀ p ∈ rest, p.1 ≠ A.d2) (m1 : p1.1 ≠ A.d1) (m2 : p1.1 ≠ A.d2) (m3 : p2.1 ≠ A.d1) (m4 : p2.1 ≠ A.d2) (hinc : inc [A.own, A.dx, A.x, A.d1, A.b1, A.d2, A.b2])
    (h1 : 0 ≤ r1) (h2 : r1 ≤ 400) (h3 : 1 ≤ u1) (h4 : u1 ≤ 70) (h5 : 0 ≤ r2) (h6 : r2 ≤ 400) (h7 : 1 ≤ u2) (h8 : u2 ≤ 70) (h9 : 0 ≤ size) (h10 : size ≤ 70)
    (ret : ∀ c' t v13' v14' v23' v24' g1' t1' g2' t2' h' tk', R2 c size now r1 u1 g1 t1 r2 u2 g2 t2 c' g1' t1' g2' t2' → Fr h₀ L h' m →
      News h₀ L h' (p1 :: p2 :: blk2 w A aw T r1 u1 r2 u2 o v13' v14' v23' v24' g1' t1' g2' t2' rest) → Q (.str (cs c') t) { s with heap := h', toks := tk' }) :
    wpAny (model PySem.Challenge.rw_pc0363_01.row.prog w) (ktrTop dp un gd cn csc L a ccd cl outer) (call (.ref 192) [.ref A.x, .int size ts, .int now tn, bv b tb]) Q E s := by
  simp only [inc, incF] at hinc
  exact color2_call C (news_turn N) hc hdp hun (off3 m1 m3 (neN (by omega)) n1) (off3 m2 m4 (neN (by omega)) n2) (neN (by omega)) (neN (by omega)) (neN (by omega)) (neN (by omega)) (neN (by omega)) (neN (by omega)) (neN (by omega)) (neN (by omega)) (neN (by omega))
    h1 h2 h3 h4 h5 h6 h7 h8 h9 h10 fun c' t v13' v14' v23' v24' g1' t1' g2' t2' h' tk' hR F' N' => ret c' t v13' v14' v23' v24' g1' t1' g2' t2' _ _ hR F' (news_back N')
end
/-- the law's inner loop's body, and the law's scope, out of the given program -/
def outerOf (p : Program) : Option (List PySem.Stmt × Scope) :=
  match p.main.body.getLast? with
  | some (PySem.Stmt.FunctionDef _ _ b _ _ _ sc _ _ _) => match (b[4]? : Option PySem.Stmt) with
    | some (PySem.Stmt.For _ _ ob _ _) => some (ob, sc)
    | _ => none
  | _ => none
def innerOf (p : Program) : Option (List PySem.Stmt × Scope) :=
  match outerOf p with
  | some (ob, sc) => match (ob[2]? : Option PySem.Stmt) with
    | some (PySem.Stmt.For _ _ ib _ _) => some (ib, sc)
    | _ => none
  | none => none
section
variable {w : World} {lo : List Str} {me : ExcName → Option Value} {mg mb : Str → Option Value} {g : Heap} {L fa : Addr} {cd : Value} {m : Str → Option Value} {s : Shared} {Q : Flow → Shared → Prop} {E : Value → Shared → Prop}
local macro_rules | `(tactic| walk_at "call ref") => `(tactic| (k_here; refine stop ?_))
set_option maxRecDepth 100000 in
set_option maxHeartbeats 8000000 in
theorem inner0 {ib : List Stmt} {sc : Scope} (hib : innerOf PySem.Challenge.pw_pc0363_01 = some (ib, sc))
    {A : PAd} {T : PTok} {rate u1 pk u2 g1 t1 g2 t2 f sec now0 size green : Int} {k : Nat} {o : Obj} {b : Option Col} {q l : Nat} {q1 q2 q3 : Nat} {v13 v14 v23 v24 tb ts tk tn tg : Tok} {rest : List (Addr × Obj)}
    (B : Below callerA g [] g) (F : Fr g L s.heap m) (X : (Mine.hd.heap_39 w.params).In g) (Tp : Top topProg lo me mg mb g)
    (hm : ∀ p ∈ [(Str.ofString "policer", Value.ref A.x), (Str.ofString "own", Value.ref A.own), (Str.ofString "fill", Value.ref 227), (Str.ofString "tell", Value.ref 241), (Str.ofString "is_aware", Value.bool false),
      (Str.ofString "before", bv b tb), (Str.ofString "size", Value.int size ts), (Str.ofString "step", Value.int (k : Int) tk), (Str.ofString "now", Value.int (now0 + (k : Int)) tn), (Str.ofString "pairs", Value.ref l), (Str.ofString "green", Value.int green tg)], m p.1 = some p.2)
    (N : News g L s.heap ((l, PySem.W.listOf [Value.ref q, .ref q1, .ref q2, .ref q3].toArray 4) :: (q, tupO A 227 241 false) :: blk1 w A false T rate u1 0 u2 o v13 v14 v23 v24 g1 t1 g2 t2 rest))
    (hinc : inc [A.own, A.dx, A.x, A.d1, A.b1, A.d2, A.b2, q]) (hl : l < A.own) (hne : ∀ p ∈ rest, p.1 ≠ A.own ∧ p.1 ≠ A.d1 ∧ p.1 ≠ A.d2) (hs : (A.own == sysModules) = false)
    (hD : DI w o (OwnD rate (100 * u1) pk (100 * u2) f sec)) (I : I1 now0 rate u1 g1 t1 u2 g2 t2 f sec)
    (h1 : 0 ≤ rate) (h2 : rate ≤ 400) (h3 : 1 ≤ u1) (h4 : u1 ≤ 70) (h7 : 1 ≤ u2) (h8 : u2 ≤ 70) (h9 : 0 ≤ size) (h10 : size ≤ 70) (hk : k ≤ 30)
    (ret : ∀ (m' : Str → Option Value) (o' : Obj) (f' sec' g1' t1' g2' t2' gx : Int) (tg' v13' v14' v23' v24' : Tok) h' tk', I1 (now0 + (k : Int)) rate u1 g1' t1' u2 g2' t2' f' sec' → DI w o' (OwnD rate (100 * u1) pk (100 * u2) f' sec') →
      0 ≤ gx → gx ≤ size → f' + 100 * gx ≤ f + rate * (k : Int) → (∀ z, z ≠ Str.ofString "come" → z ≠ Str.ofString "due" → z ≠ Str.ofString "green" → m' z = m z) → m' (Str.ofString "green") = some (.int (green + gx) tg') →
      Fr g L h' m' → News g L h' ((l, PySem.W.listOf [Value.ref q, .ref q1, .ref q2, .ref q3].toArray 4) :: (q, tupO A 227 241 false) :: blk1 w A false T rate u1 0 u2 o' v13' v14' v23' v24' g1' t1' g2' t2' rest) → Q .next { s with heap := h', toks := tk' }) :
    wpAny (model PySem.Challenge.rw_pc0363_01.row.prog w) (callerA.deeper (envOf (Str.ofString "law") sc L fa cd)) (execs ib (envOf (Str.ofString "law") sc L fa cd)) Q E s := by
  have hib2 := Option.some.inj (hib : some _ = some (ib, sc))
  cases hib2
  have F' := fr_kstB F hm
  dsimp only [kstB] at F'
  dsimp only [blk1, bk, sg] at N
  have hi7 : inc [A.own, A.dx, A.x, A.d1, A.b1, A.d2, A.b2] := by simp only [inc, incF, and_true] at hinc ⊢; omega
  simp only [inc, incF, and_true] at hinc
  have hnO : ∀ p ∈ rest, p.1 ≠ A.own := fun p hp => (hne p hp).1
  have hn1 : ∀ p ∈ rest, p.1 ≠ A.d1 := fun p hp => (hne p hp).2.1
  have hn2 : ∀ p ∈ rest, p.1 ≠ A.d2 := fun p hp => (hne p hp).2.2
  clear F
  w_on
  w_strict (
    (revert X; k_fill; intro X)
    (try k_fold)
    k_steps
    repeat (any_goals (unfold Stop; (first | ((with_reducible show wpAny _ _ (call (Value.ref 162) _) _ _ _); k_dflt (refine' color1_callB (by exact ⟨by k_asm, by k_asm, by k_asm, by k_asm, by rfl, by ktr_room, by ktr_units⟩) (by k_asm) (by exact rfl) (by ktr_room) (by ktr_units) (by assumption) (by assumption) (by k_ne) (by k_ne) (by k_ne) (by k_ne) (by assumption) (by assumption) (by assumption) (by assumption) (by assumption) (by decide) (by decide) (by assumption) (by assumption) (by assumption) (by assumption) ?_); k_whole; intro zc9 zt9 zv139 zv149 zv239 zv249 zg19 zt19 zg29 zt29 zh9 ztk9 zhR9 zF9 zN9; (try dsimp only [blk1, bk, sg] at zN9); (try k_sweep); (with_reducible rename T1 _ _ _ _ _ _ _ => zhT8); (with_reducible rename I1 _ _ _ _ _ _ _ _ _ _ => zhI8); (have zhX9 := turn1' (by with_reducible assumption) (by with_reducible assumption) zhI8 zhR9 zhT8 (by with_unfolding_all rfl)); (obtain ⟨zhE9, zhI9, zhL9⟩ := zhX9); subst zhE9; clear zhR9; cases zc9 <;> (try dsimp only [cs] at *)) | ((with_reducible show wpAny _ _ (call (Value.ref 241) _) _ _ _); k_dflt (first | (refine' tell1_callU (c := .g) (by exact ⟨by k_asm, by k_asm, by k_asm, by k_asm, by rfl, by ktr_room, by ktr_units⟩) (by k_asm) (by k_updF) (by assumption) (by assumption) (by assumption) (by assumption) ?_) | (refine' tell1_callU (by exact ⟨by k_asm, by k_asm, by k_asm, by k_asm, by rfl, by ktr_room, by ktr_units⟩) (by k_asm) (by k_updF) (by assumption) (by assumption) (by assumption) (by assumption) ?_)); k_whole; intro zc9 zt9 zo9 zf9 zs9 zh9 ztk9 zhT9 zhD9 zF9 zN9; (try dsimp only at zN9); (try k_sweep)) | ((with_reducible show wpAny _ _ (call (Value.ref 227) _) _ _ _); k_dflt (refine' filled1_callU (by exact ⟨by k_asm, by k_asm, by k_asm, by k_asm, by rfl, by ktr_room, by ktr_units⟩) (by k_asm) (by k_updF) (by assumption) (by assumption) (by assumption) ?_); k_whole; intro zo9 zh9 ztk9 zhD9 zF9 zN9; (try dsimp only at zN9); (try k_sweep))); k_steps))
    all_goals (
      (rename News _ _ _ _ => kN9)
      (rename Fr _ _ _ _ => kF9)
      (with_reducible rename I1 _ _ _ _ _ _ _ _ _ _ => hI9)
      (with_reducible rename DI _ _ _ => hD9)
      (rename (_ + gv _ _ ≤ _) => hL9)
      simp only [gv] at hL9)
    · refine' ret _ _ _ _ _ _ _ _ size _ _ _ _ _ _ _ hI9 hD9 h9 (Int.le_refl _) (by omega) (fun z a1 a2 a3 => by rw [if_neg a3, if_neg a2, if_neg a1]; exact kstB_eq hm fun _ => rfl) (by with_unfolding_all rfl) kF9 kN9
    all_goals (
      refine' ret _ _ _ _ _ _ _ _ 0 _ _ _ _ _ _ _ hI9 hD9 (Int.le_refl _) h9 (by omega) (fun z a1 a2 a3 => by rw [if_neg a2, if_neg a1]; exact kstB_eq hm fun _ => rfl) (by rw [Int.add_zero]; with_unfolding_all rfl) kF9 kN9))
end
theorem is_apart {prog : Program} {w : World} {A : Around} {E : Value → Shared → Prop} {s : Shared} {h₀ : Heap} {L x y C dx : Addr} {oy : Obj} {news : List (Addr × Obj)} {Q : Value → Shared → Prop} (N : News h₀ L s.heap news) (hx : (x, instObj C dx) ∈ news) (hy : (y, oy) ∈ news) (hne : x ≠ y) (h : Q (.bool false) s) :
    wpAny (model prog w) A (compareOp .Is (.ref x) (.ref y)) Q E s := kto_is (N _ hx).1 (N _ hy).1 hne (by intro z; cases z) h
section
variable {w : World} {lo : List Str} {me : ExcName → Option Value} {mg mb : Str → Option Value} {g : Heap} {L fa : Addr} {cd : Value} {m : Str → Option Value} {s : Shared} {Q : Flow → Shared → Prop} {E : Value → Shared → Prop}
local macro_rules | `(tactic| walk_at "call ref") => `(tactic| (k_here; refine stop ?_))
local macro_rules | `(tactic| walk_at "compareOp Is ref ref") => `(tactic| (k_here; refine stop ?_))
set_option maxRecDepth 100000 in
set_option maxHeartbeats 8000000 in
theorem inner1 {ib : List Stmt} {sc : Scope} (hib : innerOf PySem.Challenge.pw_pc0363_01 = some (ib, sc))
    {A A0 : PAd} {T : PTok} {rate u1 pk u2 g1 t1 g2 t2 f sec now0 size green : Int} {k : Nat} {o : Obj} {b : Option Col} {q l : Nat} {q1 q2 q3 : Nat} {v13 v14 v23 v24 tb ts tk tn tg : Tok} {rest : List (Addr × Obj)}
    (B : Below callerA g [] g) (F : Fr g L s.heap m) (X : (Mine.hd.heap_39 w.params).In g) (Tp : Top topProg lo me mg mb g)
    (hm : ∀ p ∈ [(Str.ofString "policer", Value.ref A.x), (Str.ofString "own", Value.ref A.own), (Str.ofString "fill", Value.ref 234), (Str.ofString "tell", Value.ref 248), (Str.ofString "is_aware", Value.bool false),
      (Str.ofString "before", bv b tb), (Str.ofString "size", Value.int size ts), (Str.ofString "step", Value.int (k : Int) tk), (Str.ofString "now", Value.int (now0 + (k : Int)) tn), (Str.ofString "pairs", Value.ref l), (Str.ofString "green", Value.int green tg)], m p.1 = some p.2)
    (N : News g L s.heap ((l, PySem.W.listOf [Value.ref q, .ref q1, .ref q2, .ref q3].toArray 4) :: (q, tupO A0 227 241 false) :: blk2 w A false T rate u1 pk u2 o v13 v14 v23 v24 g1 t1 g2 t2 rest))
    (hinc : inc [A.own, A.dx, A.x, A.d1, A.b1, A.d2, A.b2]) (hq : q < A.own) (hx0 : A0.x < A.own) (hx0m : (A0.x, instObj 165 A0.dx) ∈ rest) (hl : l < A.own) (hne : ∀ p ∈ rest, p.1 ≠ A.own ∧ p.1 ≠ A.d1 ∧ p.1 ≠ A.d2) (hs : (A.own == sysModules) = false)
    (hD : DI w o (OwnD rate (100 * u1) pk (100 * u2) f sec)) (I : I2 now0 rate u1 g1 t1 pk u2 g2 t2 f sec)
    (h1 : 0 ≤ rate) (h2 : rate ≤ 400) (hp1 : 0 ≤ pk) (hp2 : pk ≤ 400) (h3 : 1 ≤ u1) (h4 : u1 ≤ 70) (h7 : 1 ≤ u2) (h8 : u2 ≤ 70) (h9 : 0 ≤ size) (h10 : size ≤ 70) (hk : k ≤ 30)
    (ret : ∀ (m' : Str → Option Value) (o' : Obj) (f' sec' g1' t1' g2' t2' : Int) (tg' v13' v14' v23' v24' : Tok) h' tk', I2 (now0 + (k : Int)) rate u1 g1' t1' pk u2 g2' t2' f' sec' → DI w o' (OwnD rate (100 * u1) pk (100 * u2) f' sec') →
      (∀ z, z ≠ Str.ofString "come" → z ≠ Str.ofString "due" → z ≠ Str.ofString "green" → m' z = m z) → m' (Str.ofString "green") = some (.int green tg') →
      Fr g L h' m' → News g L h' ((l, PySem.W.listOf [Value.ref q, .ref q1, .ref q2, .ref q3].toArray 4) :: (q, tupO A0 227 241 false) :: blk2 w A false T rate u1 pk u2 o' v13' v14' v23' v24' g1' t1' g2' t2' rest) → Q .next { s with heap := h', toks := tk' }) :
    wpAny (model PySem.Challenge.rw_pc0363_01.row.prog w) (callerA.deeper (envOf (Str.ofString "law") sc L fa cd)) (execs ib (envOf (Str.ofString "law") sc L fa cd)) Q E s := by
  have hib2 := Option.some.inj (hib : some _ = some (ib, sc))
  cases hib2
  have F' := fr_kstB F hm
  dsimp only [kstB] at F'
  dsimp only [blk2, bk, tw] at N
  have hi7 : inc [A.own, A.dx, A.x, A.d1, A.b1, A.d2, A.b2] := hinc
  simp only [inc, incF, and_true] at hinc
  have hnO : ∀ p ∈ rest, p.1 ≠ A.own := fun p hp => (hne p hp).1
  have hn1 : ∀ p ∈ rest, p.1 ≠ A.d1 := fun p hp => (hne p hp).2.1
  have hn2 : ∀ p ∈ rest, p.1 ≠ A.d2 := fun p hp => (hne p hp).2.2
  clear F
  w_on
  w_strict (
    (revert X; k_fill; intro X)
    (try k_fold)
    k_steps
    repeat (any_goals (unfold Stop; (first | (k_dflt (refine' is_apart (by k_asm) (by k_mem) (by k_mem) (by exact Ne.symm (Nat.ne_of_lt (by omega))) ?_); k_whole) | ((with_reducible show wpAny _ _ (call (Value.ref 192) _) _ _ _); k_dflt (refine' color2_callB (by exact ⟨by k_asm, by k_asm, by k_asm, by k_asm, by rfl, by ktr_room, by ktr_units⟩) (by k_asm) (by exact rfl) (by ktr_room) (by ktr_units) (by assumption) (by assumption) (by k_ne) (by k_ne) (by k_ne) (by k_ne) (by assumption) (by assumption) (by assumption) (by assumption) (by assumption) (by assumption) (by assumption) (by assumption) (by assumption) (by assumption) (by assumption) ?_); k_whole; intro zc9 zt9 zv139 zv149 zv239 zv249 zg19 zt19 zg29 zt29 zh9 ztk9 zhR9 zF9 zN9; (try dsimp only [blk2, bk, tw] at zN9); (try k_sweep); (with_reducible rename T2 _ _ _ _ _ _ _ => zhT8); (with_reducible rename I2 _ _ _ _ _ _ _ _ _ _ _ => zhI8); (have zhX9 := turn2' (by with_reducible assumption) (by with_reducible assumption) (by with_reducible assumption) zhI8 zhR9 zhT8 (by with_unfolding_all rfl)); (obtain ⟨zhE9, zhI9⟩ := zhX9); subst zhE9; clear zhR9; cases zc9 <;> (try dsimp only [cs] at *)) | ((with_reducible show wpAny _ _ (call (Value.ref 248) _) _ _ _); k_dflt (first | (refine' tell2_callU (c := .g) (by exact ⟨by k_asm, by k_asm, by k_asm, by k_asm, by rfl, by ktr_room, by ktr_units⟩) (by k_asm) (by k_updF) (by assumption) (by assumption) (by assumption) (by assumption) ?_) | (refine' tell2_callU (by exact ⟨by k_asm, by k_asm, by k_asm, by k_asm, by rfl, by ktr_room, by ktr_units⟩) (by k_asm) (by k_updF) (by assumption) (by assumption) (by assumption) (by assumption) ?_)); k_whole; intro zc9 zt9 zo9 zf9 zs9 zh9 ztk9 zhT9 zhD9 zF9 zN9; (try dsimp only at zN9); (try k_sweep)) | ((with_reducible show wpAny _ _ (call (Value.ref 234) _) _ _ _); k_dflt (refine' filled2_callU (by exact ⟨by k_asm, by k_asm, by k_asm, by k_asm, by rfl, by ktr_room, by ktr_units⟩) (by k_asm) (by k_updF) (by assumption) (by assumption) (by assumption) ?_); k_whole; intro zo9 zh9 ztk9 zhD9 zF9 zN9; (try dsimp only at zN9); (try k_sweep))); k_steps))
    all_goals (
      (rename News _ _ _ _ => kN9)
      (rename Fr _ _ _ _ => kF9)
      (with_reducible rename I2 _ _ _ _ _ _ _ _ _ _ _ => hI9)
      (with_reducible rename DI _ _ _ => hD9)
      exact ret _ _ _ _ _ _ _ _ _ _ _ _ _ _ _ hI9 hD9 (fun z a1 a2 a3 => by rw [if_neg a2, if_neg a1]; exact kstB_eq hm fun _ => rfl) (by with_unfolding_all rfl) kF9 kN9))
end
def rk : Col → Nat
  | .g => 0
  | .y => 1
  | .r => 2
theorem T1_rank {c c2 : Col} {size f s f' s' : Int} (h : T1 c size f s c2 f' s') : rk c ≤ rk c2 := by
  rcases h with ⟨a, _, b, _⟩ | ⟨a, _, _, b, _⟩ | ⟨a, _, _, b, _⟩ | ⟨a, _, b, _⟩ | ⟨a, _, b, _⟩ | ⟨a, b, _⟩ <;> rw [a, b] <;> decide
theorem T2_rank {c c2 : Col} {size f s f' s' : Int} (h : T2 c size f s c2 f' s') : rk c ≤ rk c2 := by
  rcases h with ⟨a, b, _⟩ | ⟨(a | a), _, b, _⟩ | ⟨a, _, b, _⟩ | ⟨a, _, _, b, _⟩ | ⟨a, _, _, b, _⟩ <;> rw [a, b] <;> decide
theorem index_cols {prog : Program} {w : World} {A : Around} {E : Value → Shared → Prop} {s : Shared} {h₀ : Heap} {L D : Addr} {news : List (Addr × Obj)} {Q : Value → Shared → Prop} {t1 t2 t3 t : Tok} {n : Nat} (c : Col) (N : News h₀ L s.heap news)
    (hm : (D, PySem.W.listOf [Value.str (Str.ofString "green") t1, .str (Str.ofString "yellow") t2, .str (Str.ofString "red") t3].toArray n) ∈ news) (h : Q (.int ((rk c : Nat) : Int) s.toks) { s with toks := s.toks + 1 }) :
    wpAny (model prog w) A (call (.builtin "list.index") [.ref D, .str (cs c) t]) Q E s := by
  refine call_meets PySem.F.slot_list_index ⟨_, (N _ hm).1, rfl⟩ PySem.F.entry_list_index (PySem.F.args_list_index_2 _ _)
    (MeetsSeq.list_index D _ n (.str (cs c) t) (fun y => match y with | .str a _ => a == cs c | _ => false) ?_ (rk c) (by cases c <;> simp [rk]) (by cases c <;> decide) (by cases c <;> exact (beq_self_eq_true _)) ?_) ⟨(N _ hm).1, h⟩
  · intro y hy
    simp only [List.mem_toArray, List.mem_cons, List.not_mem_nil, or_false] at hy
    rcases hy with rfl | rfl | rfl <;> exact PyProof.Rows.eqGives_str _ _ _ _
  · intro i hi hlt
    match i, c with
    | 0, .y => exact (by decide : (Str.ofString "green" == Str.ofString "yellow") = false)
    | 0, .r => exact (by decide : (Str.ofString "green" == Str.ofString "red") = false)
    | 1, .r => exact (by decide : (Str.ofString "yellow" == Str.ofString "red") = false)
    | 0, .g => exact absurd hlt (by decide)
    | i + 1, .g => exact absurd hlt (by simp [rk])
    | i + 1, .y => exact absurd hlt (by simp [rk])
    | i + 2, .r => exact absurd hlt (by simp [rk])
theorem ne_same {prog : Program} {w : World} {A : Around} {E : Value → Shared → Prop} {s : Shared} {Q : Value → Shared → Prop} {c : Col} {t u : Tok} (h : Q (.bool false) s) : wpAny (model prog w) A (compareOp .NotEq (.str (cs c) t) (.str (cs c) u)) Q E s :=
  PyProof.Rows.ne_str (by rw [bne_self_eq_false]; exact h)
section
variable {w : World} {lo : List Str} {me : ExcName → Option Value} {mg mb : Str → Option Value} {g : Heap} {L fa : Addr} {cd : Value} {m : Str → Option Value} {s : Shared} {Q : Flow → Shared → Prop} {E : Value → Shared → Prop}
local macro_rules | `(tactic| walk_at "call ref") => `(tactic| (k_here; refine stop ?_))
local macro_rules | `(tactic| walk_at "compareOp Is ref ref") => `(tactic| (k_here; refine stop ?_))
local macro_rules | `(tactic| walk_at "call builtin:list.index") => `(tactic| (k_here; refine stop ?_))
local macro_rules | `(tactic| walk_at "compareOp NotEq str str") => `(tactic| (k_here; refine stop ?_))
set_option maxRecDepth 100000 in
set_option maxHeartbeats 8000000 in
theorem inner2 {ib : List Stmt} {sc : Scope} (hib : innerOf PySem.Challenge.pw_pc0363_01 = some (ib, sc))
    {A A0 : PAd} {T : PTok} {rate u1 pk u2 g1 t1 g2 t2 f sec now0 size green : Int} {k : Nat} {o : Obj} {b : Option Col} {q l : Nat} {q1 q2 q3 : Nat} {v13 v14 v23 v24 tb ts tk tn tg : Tok} {rest : List (Addr × Obj)}
    (B : Below callerA g [] g) (F : Fr g L s.heap m) (X : (Mine.hd.heap_39 w.params).In g) (Tp : Top topProg lo me mg mb g)
    (hm : ∀ p ∈ [(Str.ofString "policer", Value.ref A.x), (Str.ofString "own", Value.ref A.own), (Str.ofString "fill", Value.ref 227), (Str.ofString "tell", Value.ref 241), (Str.ofString "is_aware", Value.bool true),
      (Str.ofString "before", bv b tb), (Str.ofString "size", Value.int size ts), (Str.ofString "step", Value.int (k : Int) tk), (Str.ofString "now", Value.int (now0 + (k : Int)) tn), (Str.ofString "pairs", Value.ref l), (Str.ofString "green", Value.int green tg)], m p.1 = some p.2)
    (N : News g L s.heap ((l, PySem.W.listOf [Value.ref q, .ref q1, .ref q2, .ref q3].toArray 4) :: (q, tupO A0 227 241 false) :: blk1 w A true T rate u1 0 u2 o v13 v14 v23 v24 g1 t1 g2 t2 rest))
    (hinc : inc [A.own, A.dx, A.x, A.d1, A.b1, A.d2, A.b2]) (hq : q < A.own) (hx0 : A0.x < A.own) (hx0m : (A0.x, instObj 165 A0.dx) ∈ rest) (hl : l < A.own) (hne : ∀ p ∈ rest, p.1 ≠ A.own ∧ p.1 ≠ A.d1 ∧ p.1 ≠ A.d2) (hs : (A.own == sysModules) = false)
    (hD : DI w o (OwnD rate (100 * u1) pk (100 * u2) f sec)) (I : I1 now0 rate u1 g1 t1 u2 g2 t2 f sec)
    (h1 : 0 ≤ rate) (h2 : rate ≤ 400) (h3 : 1 ≤ u1) (h4 : u1 ≤ 70) (h7 : 1 ≤ u2) (h8 : u2 ≤ 70) (h9 : 0 ≤ size) (h10 : size ≤ 70) (hk : k ≤ 30)
    (ret : ∀ (m' : Str → Option Value) (o' : Obj) (f' sec' g1' t1' g2' t2' : Int) (tg' v13' v14' v23' v24' : Tok) h' tk', I1 (now0 + (k : Int)) rate u1 g1' t1' u2 g2' t2' f' sec' → DI w o' (OwnD rate (100 * u1) pk (100 * u2) f' sec') →
      (∀ z, z ≠ Str.ofString "come" → z ≠ Str.ofString "due" → z ≠ Str.ofString "green" → m' z = m z) → m' (Str.ofString "green") = some (.int green tg') →
      Fr g L h' m' → News g L h' ((l, PySem.W.listOf [Value.ref q, .ref q1, .ref q2, .ref q3].toArray 4) :: (q, tupO A0 227 241 false) :: blk1 w A true T rate u1 0 u2 o' v13' v14' v23' v24' g1' t1' g2' t2' rest) → Q .next { s with heap := h', toks := tk' }) :
    wpAny (model PySem.Challenge.rw_pc0363_01.row.prog w) (callerA.deeper (envOf (Str.ofString "law") sc L fa cd)) (execs ib (envOf (Str.ofString "law") sc L fa cd)) Q E s := by
  rcases b with _ | c
  all_goals (have hib2 := Option.some.inj (hib : some _ = some (ib, sc)); cases hib2; have F' := fr_kstB F hm; dsimp only [kstB] at F'; dsimp only [blk1, bk, sg] at N; have hi7 : inc [A.own, A.dx, A.x, A.d1, A.b1, A.d2, A.b2] := hinc; simp only [inc, incF, and_true] at hinc; have hnO : ∀ p ∈ rest, p.1 ≠ A.own := fun p hp => (hne p hp).1; have hn1 : ∀ p ∈ rest, p.1 ≠ A.d1 := fun p hp => (hne p hp).2.1; have hn2 : ∀ p ∈ rest, p.1 ≠ A.d2 := fun p hp => (hne p hp).2.2; clear F)
  w_on
  all_goals w_strict (
    (revert X; k_fill; intro X)
    (try k_fold)
    k_steps
    repeat (any_goals (unfold Stop; (first | (k_dflt (refine' ne_same ?_); k_whole) | (k_dflt (refine' is_apart (by k_asm) (by k_mem) (by k_mem) (by exact Ne.symm (Nat.ne_of_lt (by omega))) ?_); k_whole) | ((try dsimp only [List.cons_append, List.nil_append]); k_dflt (first | (refine' index_cols .g (by k_asm) (by k_mem) ?_) | (refine' index_cols .y (by k_asm) (by k_mem) ?_) | (refine' index_cols .r (by k_asm) (by k_mem) ?_) | (refine' index_cols _ (by k_asm) (by k_mem) ?_)); k_whole) | ((with_reducible show wpAny _ _ (call (Value.ref 162) _) _ _ _); k_dflt (refine' color1_callB (by exact ⟨by k_asm, by k_asm, by k_asm, by k_asm, by rfl, by ktr_room, by ktr_units⟩) (by k_asm) (by exact rfl) (by ktr_room) (by ktr_units) (by assumption) (by assumption) (by k_ne) (by k_ne) (by k_ne) (by k_ne) (by assumption) (by assumption) (by assumption) (by assumption) (by assumption) (by decide) (by decide) (by assumption) (by assumption) (by assumption) (by assumption) ?_); k_whole; intro zc9 zt9 zv139 zv149 zv239 zv249 zg19 zt19 zg29 zt29 zh9 ztk9 zhR9 zF9 zN9; (try dsimp only [blk1, bk, sg] at zN9); (try k_sweep); (with_reducible rename T1 _ _ _ _ _ _ _ => zhT8); (with_reducible rename I1 _ _ _ _ _ _ _ _ _ _ => zhI8); (have zhX9 := turn1' (by with_reducible assumption) (by with_reducible assumption) zhI8 zhR9 zhT8 (by with_unfolding_all rfl)); (obtain ⟨zhE9, zhI9, zhL9⟩ := zhX9); subst zhE9; clear zhR9; (have zhk := T1_rank zhT8)) | ((with_reducible show wpAny _ _ (call (Value.ref 241) _) _ _ _); k_dflt (first | (refine' tell1_callU (c := .g) (by exact ⟨by k_asm, by k_asm, by k_asm, by k_asm, by rfl, by ktr_room, by ktr_units⟩) (by k_asm) (by k_updF) (by assumption) (by assumption) (by assumption) (by assumption) ?_) | (refine' tell1_callU (by exact ⟨by k_asm, by k_asm, by k_asm, by k_asm, by rfl, by ktr_room, by ktr_units⟩) (by k_asm) (by k_updF) (by assumption) (by assumption) (by assumption) (by assumption) ?_)); k_whole; intro zc9 zt9 zo9 zf9 zs9 zh9 ztk9 zhT9 zhD9 zF9 zN9; (try dsimp only at zN9); (try k_sweep)) | ((with_reducible show wpAny _ _ (call (Value.ref 227) _) _ _ _); k_dflt (refine' filled1_callU (by exact ⟨by k_asm, by k_asm, by k_asm, by k_asm, by rfl, by ktr_room, by ktr_units⟩) (by k_asm) (by k_updF) (by assumption) (by assumption) (by assumption) ?_); k_whole; intro zo9 zh9 ztk9 zhD9 zF9 zN9; (try dsimp only at zN9); (try k_sweep))); k_steps))
    all_goals (
      (rename News _ _ _ _ => kN9)
      (rename Fr _ _ _ _ => kF9)
      (with_reducible rename I1 _ _ _ _ _ _ _ _ _ _ => hI9)
      (with_reducible rename DI _ _ _ => hD9)
      exact ret _ _ _ _ _ _ _ _ _ _ _ _ _ _ _ hI9 hD9 (fun z a1 a2 a3 => by rw [if_neg a2, if_neg a1]; exact kstB_eq hm fun _ => rfl) (by with_unfolding_all rfl) kF9 (by first | exact kN9 | exact sub_tail kN9 | exact sub_tail (sub_tail kN9))))
end
section
variable {w : World} {lo : List Str} {me : ExcName → Option Value} {mg mb : Str → Option Value} {g : Heap} {L fa : Addr} {cd : Value} {m : Str → Option Value} {s : Shared} {Q : Flow → Shared → Prop} {E : Value → Shared → Prop}
local macro_rules | `(tactic| walk_at "mine pad") => `(tactic| fail "pad")
local macro_rules | `(tactic| walk_at "call ref") => `(tactic| (k_here; refine stop ?_))
local macro_rules | `(tactic| walk_at "compareOp Is ref ref") => `(tactic| (k_here; refine stop ?_))
local macro_rules | `(tactic| walk_at "call builtin:list.index") => `(tactic| (k_here; refine stop ?_))
local macro_rules | `(tactic| walk_at "compareOp NotEq str str") => `(tactic| (k_here; refine stop ?_))
set_option maxRecDepth 100000 in
set_option maxHeartbeats 8000000 in
theorem inner3 {ib : List Stmt} {sc : Scope} (hib : innerOf PySem.Challenge.pw_pc0363_01 = some (ib, sc))
    {A A0 : PAd} {T : PTok} {rate u1 pk u2 g1 t1 g2 t2 f sec now0 size green : Int} {k : Nat} {o : Obj} {b : Option Col} {q l : Nat} {q1 q2 q3 : Nat} {v13 v14 v23 v24 tb ts tk tn tg : Tok} {rest : List (Addr × Obj)}
    (B : Below callerA g [] g) (F : Fr g L s.heap m) (X : (Mine.hd.heap_39 w.params).In g) (Tp : Top topProg lo me mg mb g)
    (hm : ∀ p ∈ [(Str.ofString "policer", Value.ref A.x), (Str.ofString "own", Value.ref A.own), (Str.ofString "fill", Value.ref 234), (Str.ofString "tell", Value.ref 248), (Str.ofString "is_aware", Value.bool true),
      (Str.ofString "before", bv b tb), (Str.ofString "size", Value.int size ts), (Str.ofString "step", Value.int (k : Int) tk), (Str.ofString "now", Value.int (now0 + (k : Int)) tn), (Str.ofString "pairs", Value.ref l), (Str.ofString "green", Value.int green tg)], m p.1 = some p.2)
    (N : News g L s.heap ((l, PySem.W.listOf [Value.ref q, .ref q1, .ref q2, .ref q3].toArray 4) :: (q, tupO A0 227 241 false) :: blk2 w A true T rate u1 pk u2 o v13 v14 v23 v24 g1 t1 g2 t2 rest))
    (hinc : inc [A.own, A.dx, A.x, A.d1, A.b1, A.d2, A.b2]) (hq : q < A.own) (hx0 : A0.x < A.own) (hx0m : (A0.x, instObj 165 A0.dx) ∈ rest) (hl : l < A.own) (hne : ∀ p ∈ rest, p.1 ≠ A.own ∧ p.1 ≠ A.d1 ∧ p.1 ≠ A.d2) (hs : (A.own == sysModules) = false)
    (hD : DI w o (OwnD rate (100 * u1) pk (100 * u2) f sec)) (I : I2 now0 rate u1 g1 t1 pk u2 g2 t2 f sec)
    (h1 : 0 ≤ rate) (h2 : rate ≤ 400) (hp1 : 0 ≤ pk) (hp2 : pk ≤ 400) (h3 : 1 ≤ u1) (h4 : u1 ≤ 70) (h7 : 1 ≤ u2) (h8 : u2 ≤ 70) (h9 : 0 ≤ size) (h10 : size ≤ 70) (hk : k ≤ 30)
    (ret : ∀ (m' : Str → Option Value) (o' : Obj) (f' sec' g1' t1' g2' t2' : Int) (tg' v13' v14' v23' v24' : Tok) h' tk', I2 (now0 + (k : Int)) rate u1 g1' t1' pk u2 g2' t2' f' sec' → DI w o' (OwnD rate (100 * u1) pk (100 * u2) f' sec') →
      (∀ z, z ≠ Str.ofString "come" → z ≠ Str.ofString "due" → z ≠ Str.ofString "green" → m' z = m z) → m' (Str.ofString "green") = some (.int green tg') →
      Fr g L h' m' → News g L h' ((l, PySem.W.listOf [Value.ref q, .ref q1, .ref q2, .ref q3].toArray 4) :: (q, tupO A0 227 241 false) :: blk2 w A true T rate u1 pk u2 o' v13' v14' v23' v24' g1' t1' g2' t2' rest) → Q .next { s with heap := h', toks := tk' }) :
    wpAny (model PySem.Challenge.rw_pc0363_01.row.prog w) (callerA.deeper (envOf (Str.ofString "law") sc L fa cd)) (execs ib (envOf (Str.ofString "law") sc L fa cd)) Q E s := by
  rcases b with _ | c
  all_goals (have hib2 := Option.some.inj (hib : some _ = some (ib, sc)); cases hib2; have F' := fr_kstB F hm; dsimp only [kstB] at F'; dsimp only [blk2, bk, tw] at N; have hi7 : inc [A.own, A.dx, A.x, A.d1, A.b1, A.d2, A.b2] := hinc; simp only [inc, incF, and_true] at hinc; have hnO : ∀ p ∈ rest, p.1 ≠ A.own := fun p hp => (hne p hp).1; have hn1 : ∀ p ∈ rest, p.1 ≠ A.d1 := fun p hp => (hne p hp).2.1; have hn2 : ∀ p ∈ rest, p.1 ≠ A.d2 := fun p hp => (hne p hp).2.2; clear F)
  w_on
  all_goals w_strict (
    (revert X; k_fill; intro X)
    (try k_fold)
    k_steps
    repeat (any_goals (unfold Stop; (first | (k_dflt (refine' ne_same ?_); k_whole) | (k_dflt (refine' is_apart (by k_asm) (by k_mem) (by k_mem) (by exact Ne.symm (Nat.ne_of_lt (by omega))) ?_); k_whole) | ((try dsimp only [List.cons_append, List.nil_append]); k_dflt (first | (refine' index_cols .g (by k_asm) (by k_mem) ?_) | (refine' index_cols .y (by k_asm) (by k_mem) ?_) | (refine' index_cols .r (by k_asm) (by k_mem) ?_) | (refine' index_cols _ (by k_asm) (by k_mem) ?_)); k_whole) | ((with_reducible show wpAny _ _ (call (Value.ref 192) _) _ _ _); k_dflt (refine' color2_callB (by exact ⟨by k_asm, by k_asm, by k_asm, by k_asm, by rfl, by ktr_room, by ktr_units⟩) (by k_asm) (by exact rfl) (by ktr_room) (by ktr_units) (by assumption) (by assumption) (by k_ne) (by k_ne) (by k_ne) (by k_ne) (by assumption) (by assumption) (by assumption) (by assumption) (by assumption) (by assumption) (by assumption) (by assumption) (by assumption) (by assumption) (by assumption) ?_); k_whole; intro zc9 zt9 zv139 zv149 zv239 zv249 zg19 zt19 zg29 zt29 zh9 ztk9 zhR9 zF9 zN9; (try dsimp only [blk2, bk, tw] at zN9); (try k_sweep); (with_reducible rename T2 _ _ _ _ _ _ _ => zhT8); (with_reducible rename I2 _ _ _ _ _ _ _ _ _ _ _ => zhI8); (have zhX9 := turn2' (by with_reducible assumption) (by with_reducible assumption) (by with_reducible assumption) zhI8 zhR9 zhT8 (by with_unfolding_all rfl)); (obtain ⟨zhE9, zhI9⟩ := zhX9); subst zhE9; clear zhR9; (have zhk := T2_rank zhT8)) | ((with_reducible show wpAny _ _ (call (Value.ref 248) _) _ _ _); k_dflt (first | (refine' tell2_callU (c := .g) (by exact ⟨by k_asm, by k_asm, by k_asm, by k_asm, by rfl, by ktr_room, by ktr_units⟩) (by k_asm) (by k_updF) (by assumption) (by assumption) (by assumption) (by assumption) ?_) | (refine' tell2_callU (by exact ⟨by k_asm, by k_asm, by k_asm, by k_asm, by rfl, by ktr_room, by ktr_units⟩) (by k_asm) (by k_updF) (by assumption) (by assumption) (by assumption) (by assumption) ?_)); k_whole; intro zc9 zt9 zo9 zf9 zs9 zh9 ztk9 zhT9 zhD9 zF9 zN9; (try dsimp only at zN9); (try k_sweep)) | ((with_reducible show wpAny _ _ (call (Value.ref 234) _) _ _ _); k_dflt (refine' filled2_callU (by exact ⟨by k_asm, by k_asm, by k_asm, by k_asm, by rfl, by ktr_room, by ktr_units⟩) (by k_asm) (by k_updF) (by assumption) (by assumption) (by assumption) ?_); k_whole; intro zo9 zh9 ztk9 zhD9 zF9 zN9; (try dsimp only at zN9); (try k_sweep))); k_steps))
    all_goals (
      (rename News _ _ _ _ => kN9)
      (rename Fr _ _ _ _ => kF9)
      (with_reducible rename I2 _ _ _ _ _ _ _ _ _ _ _ => hI9)
      (with_reducible rename DI _ _ _ => hD9)
      exact ret _ _ _ _ _ _ _ _ _ _ _ _ _ _ _ hI9 hD9 (fun z a1 a2 a3 => by rw [if_neg a2, if_neg a1]; exact kstB_eq hm fun _ => rfl) (by with_unfolding_all rfl) kF9 (by first | exact kN9 | exact sub_tail kN9 | exact sub_tail (sub_tail kN9))))
end
/-- the law's inner loop, whole -/
def innerFor (p : Program) : Option (Stmt × Scope) :=
  match outerOf p with
  | some (ob, sc) => match (ob[2]? : Option PySem.Stmt) with
    | some s => some (s, sc)
    | none => none
  | none => none
def innerTgt (p : Program) : Option (Expr × Scope) :=
  match outerOf p with
  | some (ob, sc) => match (ob[2]? : Option PySem.Stmt) with
    | some (PySem.Stmt.For t _ _ _ _) => some (t, sc)
    | _ => none
  | none => none
section
variable {w : World} {lo : List Str} {me : ExcName → Option Value} {mg mb : Str → Option Value} {g : Heap} {L fa : Addr} {cd : Value} {m : Str → Option Value} {s : Shared} {K : Unit → Shared → Prop} {E : Value → Shared → Prop}
set_option maxRecDepth 100000 in
set_option maxHeartbeats 4000000 in
/-- one pair's tuple, unpacked into the five names -/
theorem unpack {tg : Expr} {sc : Scope} (hib : innerTgt PySem.Challenge.pw_pc0363_01 = some (tg, sc)) {A : PAd} {q : Nat} {f t : Addr} {aw : Bool} {rest : List (Addr × Obj)}
    (B : Below callerA g [] g) (F : Fr g L s.heap m) (X : (Mine.hd.heap_39 w.params).In g) (Tp : Top topProg lo me mg mb g)
    (N : News g L s.heap ((q, tupO A f t aw) :: rest))
    (ret : ∀ m' h' tk', m' (Str.ofString "policer") = some (.ref A.x) → m' (Str.ofString "own") = some (.ref A.own) → m' (Str.ofString "fill") = some (.ref f) → m' (Str.ofString "tell") = some (.ref t) → m' (Str.ofString "is_aware") = some (.bool aw) →
      (∀ z, z ≠ Str.ofString "policer" → z ≠ Str.ofString "own" → z ≠ Str.ofString "fill" → z ≠ Str.ofString "tell" → z ≠ Str.ofString "is_aware" → m' z = m z) →
      Fr g L h' m' → News g L h' ((q, tupO A f t aw) :: rest) → K () { s with heap := h', toks := tk' }) :
    wpAny (model PySem.Challenge.rw_pc0363_01.row.prog w) (callerA.deeper (envOf (Str.ofString "law") sc L fa cd)) (assign tg (envOf (Str.ofString "law") sc L fa cd) (.ref q)) K E s := by
  have hib2 := Option.some.inj (hib : some _ = some (tg, sc))
  cases hib2
  w_on
  w_strict (
    (revert X; k_fill; intro X)
    (try k_fold)
    k_steps
    (rename News _ _ _ _ => kN9)
    (rename Fr _ _ _ _ => kF9)
    exact ret _ _ _ (by with_unfolding_all rfl) (by with_unfolding_all rfl) (by with_unfolding_all rfl) (by with_unfolding_all rfl) (by with_unfolding_all rfl) (fun z a1 a2 a3 a4 a5 => by simp only [if_neg a1, if_neg a2, if_neg a3, if_neg a4, if_neg a5]) kF9 kN9)
end
/-- where one pair stands -/
structure St where
  (o : Obj) (v13 v14 v23 v24 : Tok) (g1 t1 g2 t2 f sec : Int)
abbrev bb1 (w : World) (A : PAd) (aw : Bool) (T : PTok) (r u1 u2 : Int) (x : St) (l : List (Addr × Obj)) : List (Addr × Obj) := blk1 w A aw T r u1 0 u2 x.o x.v13 x.v14 x.v23 x.v24 x.g1 x.t1 x.g2 x.t2 l
abbrev bb2 (w : World) (A : PAd) (aw : Bool) (T : PTok) (r u1 pk u2 : Int) (x : St) (l : List (Addr × Obj)) : List (Addr × Obj) := blk2 w A aw T r u1 pk u2 x.o x.v13 x.v14 x.v23 x.v24 x.g1 x.t1 x.g2 x.t2 l
/-- the pair of one rate, of two rates, at a time -/
def S1 (w : World) (r u1 pk u2 now : Int) (x : St) : Prop := DI w x.o (OwnD r (100 * u1) pk (100 * u2) x.f x.sec) ∧ I1 now r u1 x.g1 x.t1 u2 x.g2 x.t2 x.f x.sec
def S2 (w : World) (r u1 pk u2 now : Int) (x : St) : Prop := DI w x.o (OwnD r (100 * u1) pk (100 * u2) x.f x.sec) ∧ I2 now r u1 x.g1 x.t1 pk u2 x.g2 x.t2 x.f x.sec
structure All4 where
  (A0 A1 A2 A3 : PAd) (T0 T1 T2 T3 : PTok) (q0 q1 q2 q3 l : Nat)
structure St4 where
  (x0 x1 x2 x3 : St)
def St4.Ok (w : World) (r u1 pk u2 n0 n1 n2 n3 : Int) (x : St4) : Prop := S1 w r u1 pk u2 n0 x.x0 ∧ S2 w r u1 pk u2 n1 x.x1 ∧ S1 w r u1 pk u2 n2 x.x2 ∧ S2 w r u1 pk u2 n3 x.x3
def All4.Inc (a : All4) : Prop :=
  inc [a.l, a.A0.own, a.A0.dx, a.A0.x, a.A0.d1, a.A0.b1, a.A0.d2, a.A0.b2, a.q0, a.A1.own, a.A1.dx, a.A1.x, a.A1.d1, a.A1.b1, a.A1.d2, a.A1.b2, a.q1, a.A2.own, a.A2.dx, a.A2.x, a.A2.d1, a.A2.b1, a.A2.d2, a.A2.b2, a.q2, a.A3.own, a.A3.dx, a.A3.x, a.A3.d1, a.A3.b1, a.A3.d2, a.A3.b2, a.q3]
/-- all that the pairs hold, ahead of a tail -/
def led (w : World) (a : All4) (r u1 pk u2 : Int) (x : St4) (t : List (Addr × Obj)) : List (Addr × Obj) :=
  (a.l, PySem.W.listOf [Value.ref a.q0, .ref a.q1, .ref a.q2, .ref a.q3].toArray 4) :: (a.q0, tupO a.A0 227 241 false) :: (a.q1, tupO a.A1 234 248 false) :: (a.q2, tupO a.A2 227 241 true) :: (a.q3, tupO a.A3 234 248 true) ::
    bb1 w a.A0 false a.T0 r u1 u2 x.x0 (bb2 w a.A1 false a.T1 r u1 pk u2 x.x1 (bb1 w a.A2 true a.T2 r u1 u2 x.x2 (bb2 w a.A3 true a.T3 r u1 pk u2 x.x3 t)))
/-- the ledger with one pair ahead of the others -/
def led0 (w : World) (a : All4) (r u1 pk u2 : Int) (x : St4) (t : List (Addr × Obj)) : List (Addr × Obj) :=
  (a.q1, tupO a.A1 234 248 false) :: (a.q2, tupO a.A2 227 241 true) :: (a.q3, tupO a.A3 234 248 true) :: bb2 w a.A1 false a.T1 r u1 pk u2 x.x1 (bb1 w a.A2 true a.T2 r u1 u2 x.x2 (bb2 w a.A3 true a.T3 r u1 pk u2 x.x3 t))
def led1 (w : World) (a : All4) (r u1 pk u2 : Int) (x : St4) (t : List (Addr × Obj)) : List (Addr × Obj) :=
  (a.q1, tupO a.A1 234 248 false) :: (a.q2, tupO a.A2 227 241 true) :: (a.q3, tupO a.A3 234 248 true) :: bb1 w a.A0 false a.T0 r u1 u2 x.x0 (bb1 w a.A2 true a.T2 r u1 u2 x.x2 (bb2 w a.A3 true a.T3 r u1 pk u2 x.x3 t))
def led2 (w : World) (a : All4) (r u1 pk u2 : Int) (x : St4) (t : List (Addr × Obj)) : List (Addr × Obj) :=
  (a.q1, tupO a.A1 234 248 false) :: (a.q2, tupO a.A2 227 241 true) :: (a.q3, tupO a.A3 234 248 true) :: bb1 w a.A0 false a.T0 r u1 u2 x.x0 (bb2 w a.A1 false a.T1 r u1 pk u2 x.x1 (bb2 w a.A3 true a.T3 r u1 pk u2 x.x3 t))
def led3 (w : World) (a : All4) (r u1 pk u2 : Int) (x : St4) (t : List (Addr × Obj)) : List (Addr × Obj) :=
  (a.q1, tupO a.A1 234 248 false) :: (a.q2, tupO a.A2 227 241 true) :: (a.q3, tupO a.A3 234 248 true) :: bb1 w a.A0 false a.T0 r u1 u2 x.x0 (bb2 w a.A1 false a.T1 r u1 pk u2 x.x1 (bb1 w a.A2 true a.T2 r u1 u2 x.x2 t))
def hd2 (a : All4) : List (Addr × Obj) := [(a.l, PySem.W.listOf [Value.ref a.q0, .ref a.q1, .ref a.q2, .ref a.q3].toArray 4), (a.q0, tupO a.A0 227 241 false)]
theorem led_m0 {w : World} {a : All4} {r u1 pk u2 : Int} {x : St4} {t : List (Addr × Obj)} (p : Addr × Obj) : p ∈ led w a r u1 pk u2 x t ↔ p ∈ hd2 a ++ bb1 w a.A0 false a.T0 r u1 u2 x.x0 (led0 w a r u1 pk u2 x t) := by
  simp only [led, led0, hd2, List.mem_cons, List.mem_append, List.not_mem_nil, or_false]
  exact iff_of_eq (by ac_rfl)
theorem led_m1 {w : World} {a : All4} {r u1 pk u2 : Int} {x : St4} {t : List (Addr × Obj)} (p : Addr × Obj) : p ∈ led w a r u1 pk u2 x t ↔ p ∈ hd2 a ++ bb2 w a.A1 false a.T1 r u1 pk u2 x.x1 (led1 w a r u1 pk u2 x t) := by
  simp only [led, led1, hd2, List.mem_cons, List.mem_append, List.not_mem_nil, or_false]
  exact iff_of_eq (by ac_rfl)
theorem led_m2 {w : World} {a : All4} {r u1 pk u2 : Int} {x : St4} {t : List (Addr × Obj)} (p : Addr × Obj) : p ∈ led w a r u1 pk u2 x t ↔ p ∈ hd2 a ++ bb1 w a.A2 true a.T2 r u1 u2 x.x2 (led2 w a r u1 pk u2 x t) := by
  simp only [led, led2, hd2, List.mem_cons, List.mem_append, List.not_mem_nil, or_false]
  exact iff_of_eq (by ac_rfl)
theorem led_m3 {w : World} {a : All4} {r u1 pk u2 : Int} {x : St4} {t : List (Addr × Obj)} (p : Addr × Obj) : p ∈ led w a r u1 pk u2 x t ↔ p ∈ hd2 a ++ bb2 w a.A3 true a.T3 r u1 pk u2 x.x3 (led3 w a r u1 pk u2 x t) := by
  simp only [led, led3, hd2, List.mem_cons, List.mem_append, List.not_mem_nil, or_false]
  exact iff_of_eq (by ac_rfl)
def All4.ch (a : All4) : List Addr :=
  [a.l, a.A0.own, a.A0.dx, a.A0.x, a.A0.d1, a.A0.b1, a.A0.d2, a.A0.b2, a.q0, a.A1.own, a.A1.dx, a.A1.x, a.A1.d1, a.A1.b1, a.A1.d2, a.A1.b2, a.q1, a.A2.own, a.A2.dx, a.A2.x, a.A2.d1, a.A2.b1, a.A2.d2, a.A2.b2, a.q2, a.A3.own, a.A3.dx, a.A3.x, a.A3.d1, a.A3.b1, a.A3.d2, a.A3.b2, a.q3]
theorem incF_ix {l : List Nat} : ∀ {a : Nat}, incF a l → ∀ {i : Nat} {z : Nat}, l[i]? = some z → a < z := by
  induction l with
  | nil => intro a _ i z h; cases h
  | cons b r ih =>
    intro a h i z hz
    cases i with
    | zero => cases hz; exact h.1
    | succ i => exact Nat.lt_trans h.1 (ih h.2 hz)
theorem inc_ix : ∀ {l : List Nat}, inc l → ∀ {i j : Nat} {x y : Nat}, i < j → l[i]? = some x → l[j]? = some y → x < y
  | [], _, i, _, _, _, _, hx, _ => by cases hx
  | b :: r, h, i, 0, _, _, hij, _, _ => absurd hij (Nat.not_lt_zero _)
  | b :: r, h, 0, j + 1, _, _, _, hx, hy => by cases hx; exact incF_ix h hy
  | b :: c :: r, h, i + 1, j + 1, _, _, hij, hx, hy => inc_ix (l := c :: r) h.2 (Nat.lt_of_succ_lt_succ hij) hx hy
  | [b], h, i + 1, j + 1, _, _, hij, hx, hy => by cases hx
theorem inc_ne {l : List Nat} (h : inc l) {i j : Nat} {x y : Nat} (hij : i ≠ j) (hx : l[i]? = some x) (hy : l[j]? = some y) : x ≠ y :=
  (Nat.lt_or_gt_of_ne hij).elim (fun q => Nat.ne_of_lt (inc_ix h q hx hy)) fun q => Nat.ne_of_gt (inc_ix h q hy hx)
/-- a list told by the places of another -/
theorem ix_mem {l c : List Nat} {π : List Nat} (h : l.map some = π.map fun i => c[i]?) {z : Nat} (hz : z ∈ l) : ∃ i ∈ π, c[i]? = some z := by
  have h1 : some z ∈ l.map some := List.mem_map_of_mem hz
  rw [h] at h1
  exact List.mem_map.mp h1
def lch0 (a : All4) : List Nat := [a.q1, a.q2, a.q3, a.A1.b2, a.A1.d2, a.A1.b1, a.A1.d1, a.A1.x, a.A1.dx, a.A1.own, a.A2.b2, a.A2.d2, a.A2.b1, a.A2.d1, a.A2.x, a.A2.dx, a.A2.own, a.A3.b2, a.A3.d2, a.A3.b1, a.A3.d1, a.A3.x, a.A3.dx, a.A3.own]
def lch1 (a : All4) : List Nat := [a.q1, a.q2, a.q3, a.A0.b2, a.A0.d2, a.A0.b1, a.A0.d1, a.A0.x, a.A0.dx, a.A0.own, a.A2.b2, a.A2.d2, a.A2.b1, a.A2.d1, a.A2.x, a.A2.dx, a.A2.own, a.A3.b2, a.A3.d2, a.A3.b1, a.A3.d1, a.A3.x, a.A3.dx, a.A3.own]
def lch2 (a : All4) : List Nat := [a.q1, a.q2, a.q3, a.A0.b2, a.A0.d2, a.A0.b1, a.A0.d1, a.A0.x, a.A0.dx, a.A0.own, a.A1.b2, a.A1.d2, a.A1.b1, a.A1.d1, a.A1.x, a.A1.dx, a.A1.own, a.A3.b2, a.A3.d2, a.A3.b1, a.A3.d1, a.A3.x, a.A3.dx, a.A3.own]
def lch3 (a : All4) : List Nat := [a.q1, a.q2, a.q3, a.A0.b2, a.A0.d2, a.A0.b1, a.A0.d1, a.A0.x, a.A0.dx, a.A0.own, a.A1.b2, a.A1.d2, a.A1.b1, a.A1.d1, a.A1.x, a.A1.dx, a.A1.own, a.A2.b2, a.A2.d2, a.A2.b1, a.A2.d1, a.A2.x, a.A2.dx, a.A2.own]
def lchA (a : All4) : List Nat := [a.l, a.q0, a.q1, a.q2, a.q3, a.A0.b2, a.A0.d2, a.A0.b1, a.A0.d1, a.A0.x, a.A0.dx, a.A0.own, a.A1.b2, a.A1.d2, a.A1.b1, a.A1.d1, a.A1.x, a.A1.dx, a.A1.own, a.A2.b2, a.A2.d2, a.A2.b1, a.A2.d1, a.A2.x, a.A2.dx, a.A2.own, a.A3.b2, a.A3.d2, a.A3.b1, a.A3.d1, a.A3.x, a.A3.dx, a.A3.own]
theorem ne_gen {a : All4} (hI : a.Inc) {l t : List (Addr × Obj)} {c π : List Nat} {i j k : Nat} {x y z : Nat} (hm : l.map (·.1) = c ++ t.map (·.1)) (h : c.map some = π.map fun i => a.ch[i]?)
    (hx : a.ch[i]? = some x) (hy : a.ch[j]? = some y) (hz : a.ch[k]? = some z) (hd : ∀ n ∈ π, n ≠ i ∧ n ≠ j ∧ n ≠ k) (ht : ∀ p ∈ t, p.1 ∉ a.ch) : ∀ p ∈ l, p.1 ≠ x ∧ p.1 ≠ y ∧ p.1 ≠ z := by
  intro p hp
  have h1 : p.1 ∈ l.map (·.1) := List.mem_map_of_mem hp
  rw [hm] at h1
  rcases List.mem_append.mp h1 with h2 | h2
  · obtain ⟨n, hn, e⟩ := ix_mem h h2
    obtain ⟨d1, d2, d3⟩ := hd n hn
    exact ⟨inc_ne hI d1 e hx, inc_ne hI d2 e hy, inc_ne hI d3 e hz⟩
  · obtain ⟨q, hq, e⟩ := List.mem_map.mp h2
    have h3 : p.1 ∉ a.ch := e ▸ ht q hq
    exact ⟨fun e => h3 (e ▸ List.mem_of_getElem? hx), fun e => h3 (e ▸ List.mem_of_getElem? hy), fun e => h3 (e ▸ List.mem_of_getElem? hz)⟩
section
variable {w : World} {a : All4} {r u1 pk u2 : Int} {x : St4} {t : List (Addr × Obj)}
theorem ne_led0 (hI : a.Inc) (ht : ∀ p ∈ t, p.1 ∉ a.ch) : ∀ p ∈ led0 w a r u1 pk u2 x t, p.1 ≠ a.A0.own ∧ p.1 ≠ a.A0.d1 ∧ p.1 ≠ a.A0.d2 :=
  ne_gen hI (c := lch0 a) (π := [16, 24, 32, 15, 14, 13, 12, 11, 10, 9, 23, 22, 21, 20, 19, 18, 17, 31, 30, 29, 28, 27, 26, 25]) (i := 1) (j := 4) (k := 6) rfl rfl rfl rfl rfl (by decide) ht
theorem ne_led1 (hI : a.Inc) (ht : ∀ p ∈ t, p.1 ∉ a.ch) : ∀ p ∈ led1 w a r u1 pk u2 x t, p.1 ≠ a.A1.own ∧ p.1 ≠ a.A1.d1 ∧ p.1 ≠ a.A1.d2 :=
  ne_gen hI (c := lch1 a) (π := [16, 24, 32, 7, 6, 5, 4, 3, 2, 1, 23, 22, 21, 20, 19, 18, 17, 31, 30, 29, 28, 27, 26, 25]) (i := 9) (j := 12) (k := 14) rfl rfl rfl rfl rfl (by decide) ht
theorem ne_led2 (hI : a.Inc) (ht : ∀ p ∈ t, p.1 ∉ a.ch) : ∀ p ∈ led2 w a r u1 pk u2 x t, p.1 ≠ a.A2.own ∧ p.1 ≠ a.A2.d1 ∧ p.1 ≠ a.A2.d2 :=
  ne_gen hI (c := lch2 a) (π := [16, 24, 32, 7, 6, 5, 4, 3, 2, 1, 15, 14, 13, 12, 11, 10, 9, 31, 30, 29, 28, 27, 26, 25]) (i := 17) (j := 20) (k := 22) rfl rfl rfl rfl rfl (by decide) ht
theorem ne_led3 (hI : a.Inc) (ht : ∀ p ∈ t, p.1 ∉ a.ch) : ∀ p ∈ led3 w a r u1 pk u2 x t, p.1 ≠ a.A3.own ∧ p.1 ≠ a.A3.d1 ∧ p.1 ≠ a.A3.d2 :=
  ne_gen hI (c := lch3 a) (π := [16, 24, 32, 7, 6, 5, 4, 3, 2, 1, 15, 14, 13, 12, 11, 10, 9, 23, 22, 21, 20, 19, 18, 17]) (i := 25) (j := 28) (k := 30) rfl rfl rfl rfl rfl (by decide) ht
theorem led_adr : (led w a r u1 pk u2 x t).map (·.1) = lchA a ++ t.map (·.1) := rfl
theorem led_in {p : Addr × Obj} (hp : p ∈ led w a r u1 pk u2 x t) : p.1 ∈ a.ch ∨ ∃ q ∈ t, q.1 = p.1 := by
  have h1 : p.1 ∈ (led w a r u1 pk u2 x t).map (·.1) := List.mem_map_of_mem hp
  rw [led_adr] at h1
  rcases List.mem_append.mp h1 with h2 | h2
  · obtain ⟨n, _, e⟩ := ix_mem (c := a.ch) (π := [0, 8, 16, 24, 32, 7, 6, 5, 4, 3, 2, 1, 15, 14, 13, 12, 11, 10, 9, 23, 22, 21, 20, 19, 18, 17, 31, 30, 29, 28, 27, 26, 25]) rfl h2
    exact .inl (List.mem_of_getElem? e)
  · obtain ⟨q, hq, e⟩ := List.mem_map.mp h2
    exact .inr ⟨q, hq, e⟩
theorem ch_led {z : Addr} (hz : z ∈ a.ch) : z ∈ (led w a r u1 pk u2 x t).map (·.1) := by
  obtain ⟨n, _, e⟩ := ix_mem (l := a.ch) (c := lchA a) (π := [0, 11, 10, 9, 8, 7, 6, 5, 1, 18, 17, 16, 15, 14, 13, 12, 2, 25, 24, 23, 22, 21, 20, 19, 3, 32, 31, 30, 29, 28, 27, 26, 4]) rfl hz
  rw [led_adr]
  exact List.mem_append_left _ (List.mem_of_getElem? e)
theorem led_t {p : Addr × Obj} (hp : p ∈ t) : p ∈ led w a r u1 pk u2 x t := by
  unfold led
  repeat' (first | exact hp | apply List.Mem.tail)
theorem ch_size {g h : Heap} {L : Addr} (N : News g L h (led w a r u1 pk u2 x t)) : ∀ z ∈ a.ch, z < h.objs.size := by
  intro z hz
  obtain ⟨p, hp, e⟩ := List.mem_map.mp (ch_led (w := w) (r := r) (u1 := u1) (pk := pk) (u2 := u2) (x := x) (t := t) hz)
  exact e ▸ Heap.lt_size (N p hp).1
theorem ch_at {z : Nat} (i : Nat) (h : a.ch[i]? = some z) : z ∈ a.ch := List.mem_of_getElem? h
theorem mvA {p : Addr × Obj} {led hd b r own : List (Addr × Obj)} (hl : ∀ p, p ∈ led ↔ p ∈ hd ++ (b ++ r)) : p ∈ hd ++ (b ++ (own ++ r)) ↔ p ∈ own ++ led := by
  simp only [List.mem_append, hl]
  exact iff_of_eq (by ac_rfl)
theorem ne3 {x y z u : Nat} (h1 : x ≠ y) (h2 : x ≠ z) (h3 : x ≠ u) : ((x : Addr) ≠ y) ∧ ((x : Addr) ≠ z) ∧ ((x : Addr) ≠ u) := ⟨h1, h2, h3⟩
theorem ne_own {A : PAd} {I : Nat} {own l : List (Addr × Obj)} (ho : ∀ p ∈ own, p.1 ∈ [I, a.l]) (h1 : A.own < I) (h2 : A.d1 < I) (h3 : A.d2 < I) (l1 : a.l < A.own) (l2 : a.l < A.d1) (l3 : a.l < A.d2)
    (ht : ∀ p ∈ l, p.1 ≠ A.own ∧ p.1 ≠ A.d1 ∧ p.1 ≠ A.d2) : ∀ p ∈ own ++ l, p.1 ≠ A.own ∧ p.1 ≠ A.d1 ∧ p.1 ≠ A.d2 := by
  intro p hp
  rcases List.mem_append.mp hp with hp | hp
  · have h := ho p hp
    simp only [List.mem_cons, List.not_mem_nil, or_false] at h
    rcases h with h | h <;> rw [h]
    · exact ne3 (Nat.ne_of_gt h1) (Nat.ne_of_gt h2) (Nat.ne_of_gt h3)
    · exact ne3 (Nat.ne_of_lt l1) (Nat.ne_of_lt l2) (Nat.ne_of_lt l3)
  · exact ht p hp
end
section
variable {w : World} {lo : List Str} {me : ExcName → Option Value} {mg mb : Str → Option Value} {g : Heap} {L fa : Addr} {cd : Value} {m : Str → Option Value} {s : Shared} {Q : Flow → Shared → Prop} {E : Value → Shared → Prop}
local macro_rules | `(tactic| walk_at "pyIter ref") => `(tactic| (k_here; refine stop ?_))
local macro_rules | `(tactic| walk_at "exec For") => `(tactic| (k_here; refine stop ?_))
set_option maxRecDepth 100000 in
set_option maxHeartbeats 4000000 in
/-- the law's inner loop: the four pairs go on by one step, none answers otherwise than its own -/
theorem inner_loop {fs : Stmt} {sc : Scope} (hib : innerFor PySem.Challenge.pw_pc0363_01 = some (fs, sc))
    {a : All4} {rate u1 pk u2 now0 size green : Int} {k : Nat} {b : Option Col} {x : St4} {tb ts tk tn tg : Tok} {t : List (Addr × Obj)}
    (B : Below callerA g [] g) (F : Fr g L s.heap m) (X : (Mine.hd.heap_39 w.params).In g) (Tp : Top topProg lo me mg mb g)
    (hm : ∀ p ∈ [(Str.ofString "before", bv b tb), (Str.ofString "size", Value.int size ts), (Str.ofString "step", Value.int (k : Int) tk), (Str.ofString "now", Value.int (now0 + (k : Int)) tn), (Str.ofString "pairs", Value.ref a.l), (Str.ofString "green", Value.int green tg)], m p.1 = some p.2)
    (N : News g L s.heap (led w a rate u1 pk u2 x t)) (hI : a.Inc) (ht : ∀ p ∈ t, p.1 ∉ a.ch)
    (hs0 : (a.A0.own == sysModules) = false) (hs1 : (a.A1.own == sysModules) = false) (hs2 : (a.A2.own == sysModules) = false) (hs3 : (a.A3.own == sysModules) = false)
    (hok : x.Ok w rate u1 pk u2 now0 now0 now0 now0)
    (h1 : 0 ≤ rate) (h2 : rate ≤ 400) (hp1 : 0 ≤ pk) (hp2 : pk ≤ 400) (h3 : 1 ≤ u1) (h4 : u1 ≤ 70) (h7 : 1 ≤ u2) (h8 : u2 ≤ 70) (h9 : 0 ≤ size) (h10 : size ≤ 70) (hk : k ≤ 30)
    (hE : PassesOwn (model PySem.Challenge.rw_pc0363_01.row.prog w) (callerA.deeper (envOf (Str.ofString "law") sc L fa cd)) (envOf (Str.ofString "law") sc L fa cd) E)
    (ret : ∀ (m' : Str → Option Value) (x' : St4) (gx : Int) (tg' : Tok) h' tk', x'.Ok w rate u1 pk u2 (now0 + (k : Int)) (now0 + (k : Int)) (now0 + (k : Int)) (now0 + (k : Int)) → 0 ≤ gx → gx ≤ size → x'.x0.f + 100 * gx ≤ x.x0.f + rate * (k : Int) →
      (∀ z, z ≠ Str.ofString "policer" → z ≠ Str.ofString "own" → z ≠ Str.ofString "fill" → z ≠ Str.ofString "tell" → z ≠ Str.ofString "is_aware" → z ≠ Str.ofString "come" → z ≠ Str.ofString "due" → z ≠ Str.ofString "green" → m' z = m z) →
      m' (Str.ofString "green") = some (.int (green + gx) tg') → Fr g L h' m' → News g L h' (led w a rate u1 pk u2 x' t) → Q .next { s with heap := h', toks := tk' }) :
    wpAny (model PySem.Challenge.rw_pc0363_01.row.prog w) (callerA.deeper (envOf (Str.ofString "law") sc L fa cd)) (exec fs (envOf (Str.ofString "law") sc L fa cd)) Q E s := by
  have hib2 := Option.some.inj (hib : some _ = some (fs, sc))
  cases hib2
  have hsz := ch_size N
  have F' := fr_kstB F hm
  refine For_unrF F ?_ (by intro _; rfl) hE
  refine wpAny_mono (Q := fun xv s₁ => xv = Value.ref a.l ∧ ∃ tk₁, s₁ = { s with toks := tk₁ }) ?e0 (fun xv s₁ hx => ?_) (fun _ _ e => e)
  case e0 =>
    dsimp only [kstB] at F'
    clear F
    w_on
    w_strict (
      (revert X; k_fill; intro X)
      (try k_fold)
      k_steps)
  obtain ⟨rfl, tk₁, rfl⟩ := hx
  refine Iter_list_unr rfl ⟨_, (N (a.l, _) (.head _)).1, rfl, _, rfl⟩ F N ?e1 ?_
  case e1 => exact (N (a.l, _) (.head _)).2.1
  have hI' := hI
  simp only [All4.Inc, inc, incF, and_true] at hI'
  refine Unr.succ fun v h₁ tk₁ own hv hown F₁ N₁ => ?_
  have hv : v = Value.ref a.q0 := (Option.some.inj (hv : some (Value.ref a.q0) = some v)).symm
  subst hv
  refine unpack (A := a.A0) (f := 227) (t := 241) (aw := false) (rest := own ++ led w a rate u1 pk u2 x t) rfl B F₁ X Tp (fun p hp => (List.mem_cons.mp hp).elim (fun e => N₁ p (e ▸ List.mem_append_right _ ((.tail _ (.head _))))) fun hp => N₁ p hp) ?_
  intro m₂ h₂ tk₂ a1 a2 a3 a4 a5 ho₂ F₂ N₂
  have N₂ := sub_tail N₂
  have hm₂ : ∀ z, z ≠ Str.ofString "policer" → z ≠ Str.ofString "own" → z ≠ Str.ofString "fill" → z ≠ Str.ofString "tell" → z ≠ Str.ofString "is_aware" → z ≠ Str.ofString "come" → z ≠ Str.ofString "due" → z ≠ Str.ofString "green" → m₂ z = m z := fun z e1 e2 e3 e4 e5 e6 e7 e8 => (ho₂ z e1 e2 e3 e4 e5).trans rfl
  have hg₂ : m₂ (Str.ofString "green") = some (.int green tg) := (ho₂ _ (by decide) (by decide) (by decide) (by decide) (by decide)).trans (hm (Str.ofString "green", Value.int green tg) (by simp))
  have hl₂ : ∀ p ∈ [(Str.ofString "policer", Value.ref a.A0.x), (Str.ofString "own", Value.ref a.A0.own), (Str.ofString "fill", Value.ref 227), (Str.ofString "tell", Value.ref 241), (Str.ofString "is_aware", Value.bool false), (Str.ofString "before", bv b tb), (Str.ofString "size", Value.int size ts), (Str.ofString "step", Value.int (k : Int) tk), (Str.ofString "now", Value.int (now0 + (k : Int)) tn), (Str.ofString "pairs", Value.ref a.l), (Str.ofString "green", Value.int green tg)], m₂ p.1 = some p.2 := by
    intro p hp
    simp only [List.mem_cons, List.not_mem_nil, or_false] at hp
    rcases hp with rfl | rfl | rfl | rfl | rfl | rfl | rfl | rfl | rfl | rfl | rfl
    · exact a1
    · exact a2
    · exact a3
    · exact a4
    · exact a5
    · exact (hm₂ (Str.ofString "before") (by decide) (by decide) (by decide) (by decide) (by decide) (by decide) (by decide) (by decide)).trans (hm (Str.ofString "before", bv b tb) (by simp))
    · exact (hm₂ (Str.ofString "size") (by decide) (by decide) (by decide) (by decide) (by decide) (by decide) (by decide) (by decide)).trans (hm (Str.ofString "size", Value.int size ts) (by simp))
    · exact (hm₂ (Str.ofString "step") (by decide) (by decide) (by decide) (by decide) (by decide) (by decide) (by decide) (by decide)).trans (hm (Str.ofString "step", Value.int (k : Int) tk) (by simp))
    · exact (hm₂ (Str.ofString "now") (by decide) (by decide) (by decide) (by decide) (by decide) (by decide) (by decide) (by decide)).trans (hm (Str.ofString "now", Value.int (now0 + (k : Int)) tn) (by simp))
    · exact (hm₂ (Str.ofString "pairs") (by decide) (by decide) (by decide) (by decide) (by decide) (by decide) (by decide) (by decide)).trans (hm (Str.ofString "pairs", Value.ref a.l) (by simp))
    · exact hg₂
  refine inner0 (A := a.A0) (T := a.T0) (rate := rate) (u1 := u1) (pk := pk) (u2 := u2) (now0 := now0) (size := size) (k := k) (b := b) (q := a.q0) (l := a.l) (q1 := a.q1) (q2 := a.q2) (q3 := a.q3) (rest := own ++ led0 w a rate u1 pk u2 x t) rfl B F₂ X Tp hl₂ (fun p hp => N₂ p ((mvA (b := bb1 w a.A0 false a.T0 rate u1 u2 x.x0 []) led_m0).mp hp)) (hinc := ?i10) (hl := by omega) (hne := ?i20) (hs := hs0) (hD := hok.1.1) (I := hok.1.2) (h1 := h1) (h2 := h2) (h3 := h3) (h4 := h4) (h7 := h7) (h8 := h8) (h9 := h9) (h10 := h10) (hk := hk) (ret := ?i30)
  case i10 => simp only [inc, incF, and_true]; omega
  case i20 => exact ne_own hown (hsz _ (ch_at 1 rfl)) (hsz _ (ch_at 4 rfl)) (hsz _ (ch_at 6 rfl)) (inc_ix (l := a.ch) hI (i := 0) (j := 1) (by decide) rfl rfl) (inc_ix (l := a.ch) hI (i := 0) (j := 4) (by decide) rfl rfl) (inc_ix (l := a.ch) hI (i := 0) (j := 6) (by decide) rfl rfl) (ne_led0 hI ht)
  intro m₃ o₃ f₃ sec₃ g1₃ t1₃ g2₃ t2₃ gx tg1 v13 v14 v23 v24 h₃ tk₃ hI₃ hD₃ hgx hgs hgf hM₃ hG F₃ N₃
  let y1 : St4 := { x with x0 := ⟨o₃, v13, v14, v23, v24, g1₃, t1₃, g2₃, t2₃, f₃, sec₃⟩ }
  have hok : y1.Ok w rate u1 pk u2 (now0 + (k : Int)) now0 now0 now0 := ⟨⟨hD₃, hI₃⟩, hok.2.1, hok.2.2.1, hok.2.2.2⟩
  have hM : ∀ z, z ≠ Str.ofString "policer" → z ≠ Str.ofString "own" → z ≠ Str.ofString "fill" → z ≠ Str.ofString "tell" → z ≠ Str.ofString "is_aware" → z ≠ Str.ofString "come" → z ≠ Str.ofString "due" → z ≠ Str.ofString "green" → m₃ z = m z := fun z e1 e2 e3 e4 e5 e6 e7 e8 => (hM₃ z e6 e7 e8).trans (hm₂ z e1 e2 e3 e4 e5 e6 e7 e8)
  refine LoopStep3.next (LoopStep2.intro (news₂ := led w a rate u1 pk u2 y1 t) F₃ (fun p hp => N₃ p ((mvA (b := bb1 w a.A0 false a.T0 rate u1 u2 y1.x0 []) led_m0).mpr hp)) rfl ?_)
  clear N₁ N₂ N₃ F₁ F₂ F₃ hown hl₂ ho₂ a1 a2 a3 a4 a5 hg₂ hm₂ hM₃
  refine Unr.succ fun v h₁ tk₁ own hv hown F₁ N₁ => ?_
  have hv : v = Value.ref a.q1 := (Option.some.inj (hv : some (Value.ref a.q1) = some v)).symm
  subst hv
  refine unpack (A := a.A1) (f := 234) (t := 248) (aw := false) (rest := own ++ led w a rate u1 pk u2 y1 t) rfl B F₁ X Tp (fun p hp => (List.mem_cons.mp hp).elim (fun e => N₁ p (e ▸ List.mem_append_right _ ((.tail _ (.tail _ (.head _)))))) fun hp => N₁ p hp) ?_
  intro m₂ h₂ tk₂ a1 a2 a3 a4 a5 ho₂ F₂ N₂
  have N₂ := sub_tail N₂
  have hm₂ : ∀ z, z ≠ Str.ofString "policer" → z ≠ Str.ofString "own" → z ≠ Str.ofString "fill" → z ≠ Str.ofString "tell" → z ≠ Str.ofString "is_aware" → z ≠ Str.ofString "come" → z ≠ Str.ofString "due" → z ≠ Str.ofString "green" → m₂ z = m z := fun z e1 e2 e3 e4 e5 e6 e7 e8 => (ho₂ z e1 e2 e3 e4 e5).trans (hM z e1 e2 e3 e4 e5 e6 e7 e8)
  have hg₂ : m₂ (Str.ofString "green") = some (.int (green + gx) tg1) := (ho₂ _ (by decide) (by decide) (by decide) (by decide) (by decide)).trans hG
  have hl₂ : ∀ p ∈ [(Str.ofString "policer", Value.ref a.A1.x), (Str.ofString "own", Value.ref a.A1.own), (Str.ofString "fill", Value.ref 234), (Str.ofString "tell", Value.ref 248), (Str.ofString "is_aware", Value.bool false), (Str.ofString "before", bv b tb), (Str.ofString "size", Value.int size ts), (Str.ofString "step", Value.int (k : Int) tk), (Str.ofString "now", Value.int (now0 + (k : Int)) tn), (Str.ofString "pairs", Value.ref a.l), (Str.ofString "green", Value.int (green + gx) tg1)], m₂ p.1 = some p.2 := by
    intro p hp
    simp only [List.mem_cons, List.not_mem_nil, or_false] at hp
    rcases hp with rfl | rfl | rfl | rfl | rfl | rfl | rfl | rfl | rfl | rfl | rfl
    · exact a1
    · exact a2
    · exact a3
    · exact a4
    · exact a5
    · exact (hm₂ (Str.ofString "before") (by decide) (by decide) (by decide) (by decide) (by decide) (by decide) (by decide) (by decide)).trans (hm (Str.ofString "before", bv b tb) (by simp))
    · exact (hm₂ (Str.ofString "size") (by decide) (by decide) (by decide) (by decide) (by decide) (by decide) (by decide) (by decide)).trans (hm (Str.ofString "size", Value.int size ts) (by simp))
    · exact (hm₂ (Str.ofString "step") (by decide) (by decide) (by decide) (by decide) (by decide) (by decide) (by decide) (by decide)).trans (hm (Str.ofString "step", Value.int (k : Int) tk) (by simp))
    · exact (hm₂ (Str.ofString "now") (by decide) (by decide) (by decide) (by decide) (by decide) (by decide) (by decide) (by decide)).trans (hm (Str.ofString "now", Value.int (now0 + (k : Int)) tn) (by simp))
    · exact (hm₂ (Str.ofString "pairs") (by decide) (by decide) (by decide) (by decide) (by decide) (by decide) (by decide) (by decide)).trans (hm (Str.ofString "pairs", Value.ref a.l) (by simp))
    · exact hg₂
  refine inner1 (A := a.A1) (A0 := a.A0) (T := a.T1) (rate := rate) (u1 := u1) (pk := pk) (u2 := u2) (now0 := now0) (size := size) (k := k) (b := b) (q := a.q0) (l := a.l) (q1 := a.q1) (q2 := a.q2) (q3 := a.q3) (rest := own ++ led1 w a rate u1 pk u2 y1 t) rfl B F₂ X Tp hl₂ (fun p hp => N₂ p ((mvA (b := bb2 w a.A1 false a.T1 rate u1 pk u2 y1.x1 []) led_m1).mp hp)) (hinc := ?i11) (hl := by omega) (hq := by omega) (hx0 := by omega) (hx0m := List.mem_append_right _ (.tail _ (.tail _ (.tail _ (.tail _ (.tail _ (.tail _ (.tail _ (.head _))))))))) (hne := ?i21) (hs := hs1) (hD := hok.2.1.1) (I := hok.2.1.2) (hp1 := hp1) (hp2 := hp2) (h1 := h1) (h2 := h2) (h3 := h3) (h4 := h4) (h7 := h7) (h8 := h8) (h9 := h9) (h10 := h10) (hk := hk) (ret := ?i31)
  case i11 => simp only [inc, incF, and_true]; omega
  case i21 => exact ne_own hown (hsz _ (ch_at 9 rfl)) (hsz _ (ch_at 12 rfl)) (hsz _ (ch_at 14 rfl)) (inc_ix (l := a.ch) hI (i := 0) (j := 9) (by decide) rfl rfl) (inc_ix (l := a.ch) hI (i := 0) (j := 12) (by decide) rfl rfl) (inc_ix (l := a.ch) hI (i := 0) (j := 14) (by decide) rfl rfl) (ne_led1 hI ht)
  intro m₃ o₃ f₃ sec₃ g1₃ t1₃ g2₃ t2₃ tg1 v13 v14 v23 v24 h₃ tk₃ hI₃ hD₃ hM₃ hG F₃ N₃
  let y2 : St4 := { y1 with x1 := ⟨o₃, v13, v14, v23, v24, g1₃, t1₃, g2₃, t2₃, f₃, sec₃⟩ }
  have hok : y2.Ok w rate u1 pk u2 (now0 + (k : Int)) (now0 + (k : Int)) now0 now0 := ⟨hok.1, ⟨hD₃, hI₃⟩, hok.2.2.1, hok.2.2.2⟩
  have hM : ∀ z, z ≠ Str.ofString "policer" → z ≠ Str.ofString "own" → z ≠ Str.ofString "fill" → z ≠ Str.ofString "tell" → z ≠ Str.ofString "is_aware" → z ≠ Str.ofString "come" → z ≠ Str.ofString "due" → z ≠ Str.ofString "green" → m₃ z = m z := fun z e1 e2 e3 e4 e5 e6 e7 e8 => (hM₃ z e6 e7 e8).trans (hm₂ z e1 e2 e3 e4 e5 e6 e7 e8)
  refine LoopStep3.next (LoopStep2.intro (news₂ := led w a rate u1 pk u2 y2 t) F₃ (fun p hp => N₃ p ((mvA (b := bb2 w a.A1 false a.T1 rate u1 pk u2 y2.x1 []) led_m1).mpr hp)) rfl ?_)
  clear N₁ N₂ N₃ F₁ F₂ F₃ hown hl₂ ho₂ a1 a2 a3 a4 a5 hg₂ hm₂ hM₃
  refine Unr.succ fun v h₁ tk₁ own hv hown F₁ N₁ => ?_
  have hv : v = Value.ref a.q2 := (Option.some.inj (hv : some (Value.ref a.q2) = some v)).symm
  subst hv
  refine unpack (A := a.A2) (f := 227) (t := 241) (aw := true) (rest := own ++ led w a rate u1 pk u2 y2 t) rfl B F₁ X Tp (fun p hp => (List.mem_cons.mp hp).elim (fun e => N₁ p (e ▸ List.mem_append_right _ ((.tail _ (.tail _ (.tail _ (.head _))))))) fun hp => N₁ p hp) ?_
  intro m₂ h₂ tk₂ a1 a2 a3 a4 a5 ho₂ F₂ N₂
  have N₂ := sub_tail N₂
  have hm₂ : ∀ z, z ≠ Str.ofString "policer" → z ≠ Str.ofString "own" → z ≠ Str.ofString "fill" → z ≠ Str.ofString "tell" → z ≠ Str.ofString "is_aware" → z ≠ Str.ofString "come" → z ≠ Str.ofString "due" → z ≠ Str.ofString "green" → m₂ z = m z := fun z e1 e2 e3 e4 e5 e6 e7 e8 => (ho₂ z e1 e2 e3 e4 e5).trans (hM z e1 e2 e3 e4 e5 e6 e7 e8)
  have hg₂ : m₂ (Str.ofString "green") = some (.int (green + gx) tg1) := (ho₂ _ (by decide) (by decide) (by decide) (by decide) (by decide)).trans hG
  have hl₂ : ∀ p ∈ [(Str.ofString "policer", Value.ref a.A2.x), (Str.ofString "own", Value.ref a.A2.own), (Str.ofString "fill", Value.ref 227), (Str.ofString "tell", Value.ref 241), (Str.ofString "is_aware", Value.bool true), (Str.ofString "before", bv b tb), (Str.ofString "size", Value.int size ts), (Str.ofString "step", Value.int (k : Int) tk), (Str.ofString "now", Value.int (now0 + (k : Int)) tn), (Str.ofString "pairs", Value.ref a.l), (Str.ofString "green", Value.int (green + gx) tg1)], m₂ p.1 = some p.2 := by
    intro p hp
    simp only [List.mem_cons, List.not_mem_nil, or_false] at hp
    rcases hp with rfl | rfl | rfl | rfl | rfl | rfl | rfl | rfl | rfl | rfl | rfl
    · exact a1
    · exact a2
    · exact a3
    · exact a4
    · exact a5
    · exact (hm₂ (Str.ofString "before") (by decide) (by decide) (by decide) (by decide) (by decide) (by decide) (by decide) (by decide)).trans (hm (Str.ofString "before", bv b tb) (by simp))
    · exact (hm₂ (Str.ofString "size") (by decide) (by decide) (by decide) (by decide) (by decide) (by decide) (by decide) (by decide)).trans (hm (Str.ofString "size", Value.int size ts) (by simp))
    · exact (hm₂ (Str.ofString "step") (by decide) (by decide) (by decide) (by decide) (by decide) (by decide) (by decide) (by decide)).trans (hm (Str.ofString "step", Value.int (k : Int) tk) (by simp))
    · exact (hm₂ (Str.ofString "now") (by decide) (by decide) (by decide) (by decide) (by decide) (by decide) (by decide) (by decide)).trans (hm (Str.ofString "now", Value.int (now0 + (k : Int)) tn) (by simp))
    · exact (hm₂ (Str.ofString "pairs") (by decide) (by decide) (by decide) (by decide) (by decide) (by decide) (by decide) (by decide)).trans (hm (Str.ofString "pairs", Value.ref a.l) (by simp))
    · exact hg₂
  refine inner2 (A := a.A2) (A0 := a.A0) (T := a.T2) (rate := rate) (u1 := u1) (pk := pk) (u2 := u2) (now0 := now0) (size := size) (k := k) (b := b) (q := a.q0) (l := a.l) (q1 := a.q1) (q2 := a.q2) (q3 := a.q3) (rest := own ++ led2 w a rate u1 pk u2 y2 t) rfl B F₂ X Tp hl₂ (fun p hp => N₂ p ((mvA (b := bb1 w a.A2 true a.T2 rate u1 u2 y2.x2 []) led_m2).mp hp)) (hinc := ?i12) (hl := by omega) (hq := by omega) (hx0 := by omega) (hx0m := List.mem_append_right _ (.tail _ (.tail _ (.tail _ (.tail _ (.tail _ (.tail _ (.tail _ (.head _))))))))) (hne := ?i22) (hs := hs2) (hD := hok.2.2.1.1) (I := hok.2.2.1.2) (h1 := h1) (h2 := h2) (h3 := h3) (h4 := h4) (h7 := h7) (h8 := h8) (h9 := h9) (h10 := h10) (hk := hk) (ret := ?i32)
  case i12 => simp only [inc, incF, and_true]; omega
  case i22 => exact ne_own hown (hsz _ (ch_at 17 rfl)) (hsz _ (ch_at 20 rfl)) (hsz _ (ch_at 22 rfl)) (inc_ix (l := a.ch) hI (i := 0) (j := 17) (by decide) rfl rfl) (inc_ix (l := a.ch) hI (i := 0) (j := 20) (by decide) rfl rfl) (inc_ix (l := a.ch) hI (i := 0) (j := 22) (by decide) rfl rfl) (ne_led2 hI ht)
  intro m₃ o₃ f₃ sec₃ g1₃ t1₃ g2₃ t2₃ tg1 v13 v14 v23 v24 h₃ tk₃ hI₃ hD₃ hM₃ hG F₃ N₃
  let y3 : St4 := { y2 with x2 := ⟨o₃, v13, v14, v23, v24, g1₃, t1₃, g2₃, t2₃, f₃, sec₃⟩ }
  have hok : y3.Ok w rate u1 pk u2 (now0 + (k : Int)) (now0 + (k : Int)) (now0 + (k : Int)) now0 := ⟨hok.1, hok.2.1, ⟨hD₃, hI₃⟩, hok.2.2.2⟩
  have hM : ∀ z, z ≠ Str.ofString "policer" → z ≠ Str.ofString "own" → z ≠ Str.ofString "fill" → z ≠ Str.ofString "tell" → z ≠ Str.ofString "is_aware" → z ≠ Str.ofString "come" → z ≠ Str.ofString "due" → z ≠ Str.ofString "green" → m₃ z = m z := fun z e1 e2 e3 e4 e5 e6 e7 e8 => (hM₃ z e6 e7 e8).trans (hm₂ z e1 e2 e3 e4 e5 e6 e7 e8)
  refine LoopStep3.next (LoopStep2.intro (news₂ := led w a rate u1 pk u2 y3 t) F₃ (fun p hp => N₃ p ((mvA (b := bb1 w a.A2 true a.T2 rate u1 u2 y3.x2 []) led_m2).mpr hp)) rfl ?_)
  clear N₁ N₂ N₃ F₁ F₂ F₃ hown hl₂ ho₂ a1 a2 a3 a4 a5 hg₂ hm₂ hM₃
  refine Unr.succ fun v h₁ tk₁ own hv hown F₁ N₁ => ?_
  have hv : v = Value.ref a.q3 := (Option.some.inj (hv : some (Value.ref a.q3) = some v)).symm
  subst hv
  refine unpack (A := a.A3) (f := 234) (t := 248) (aw := true) (rest := own ++ led w a rate u1 pk u2 y3 t) rfl B F₁ X Tp (fun p hp => (List.mem_cons.mp hp).elim (fun e => N₁ p (e ▸ List.mem_append_right _ ((.tail _ (.tail _ (.tail _ (.tail _ (.head _)))))))) fun hp => N₁ p hp) ?_
  intro m₂ h₂ tk₂ a1 a2 a3 a4 a5 ho₂ F₂ N₂
  have N₂ := sub_tail N₂
  have hm₂ : ∀ z, z ≠ Str.ofString "policer" → z ≠ Str.ofString "own" → z ≠ Str.ofString "fill" → z ≠ Str.ofString "tell" → z ≠ Str.ofString "is_aware" → z ≠ Str.ofString "come" → z ≠ Str.ofString "due" → z ≠ Str.ofString "green" → m₂ z = m z := fun z e1 e2 e3 e4 e5 e6 e7 e8 => (ho₂ z e1 e2 e3 e4 e5).trans (hM z e1 e2 e3 e4 e5 e6 e7 e8)
  have hg₂ : m₂ (Str.ofString "green") = some (.int (green + gx) tg1) := (ho₂ _ (by decide) (by decide) (by decide) (by decide) (by decide)).trans hG
  have hl₂ : ∀ p ∈ [(Str.ofString "policer", Value.ref a.A3.x), (Str.ofString "own", Value.ref a.A3.own), (Str.ofString "fill", Value.ref 234), (Str.ofString "tell", Value.ref 248), (Str.ofString "is_aware", Value.bool true), (Str.ofString "before", bv b tb), (Str.ofString "size", Value.int size ts), (Str.ofString "step", Value.int (k : Int) tk), (Str.ofString "now", Value.int (now0 + (k : Int)) tn), (Str.ofString "pairs", Value.ref a.l), (Str.ofString "green", Value.int (green + gx) tg1)], m₂ p.1 = some p.2 := by
    intro p hp
    simp only [List.mem_cons, List.not_mem_nil, or_false] at hp
    rcases hp with rfl | rfl | rfl | rfl | rfl | rfl | rfl | rfl | rfl | rfl | rfl
    · exact a1
    · exact a2
    · exact a3
    · exact a4
    · exact a5
    · exact (hm₂ (Str.ofString "before") (by decide) (by decide) (by decide) (by decide) (by decide) (by decide) (by decide) (by decide)).trans (hm (Str.ofString "before", bv b tb) (by simp))
    · exact (hm₂ (Str.ofString "size") (by decide) (by decide) (by decide) (by decide) (by decide) (by decide) (by decide) (by decide)).trans (hm (Str.ofString "size", Value.int size ts) (by simp))
    · exact (hm₂ (Str.ofString "step") (by decide) (by decide) (by decide) (by decide) (by decide) (by decide) (by decide) (by decide)).trans (hm (Str.ofString "step", Value.int (k : Int) tk) (by simp))
    · exact (hm₂ (Str.ofString "now") (by decide) (by decide) (by decide) (by decide) (by decide) (by decide) (by decide) (by decide)).trans (hm (Str.ofString "now", Value.int (now0 + (k : Int)) tn) (by simp))
    · exact (hm₂ (Str.ofString "pairs") (by decide) (by decide) (by decide) (by decide) (by decide) (by decide) (by decide) (by decide)).trans (hm (Str.ofString "pairs", Value.ref a.l) (by simp))
    · exact hg₂
  refine inner3 (A := a.A3) (A0 := a.A0) (T := a.T3) (rate := rate) (u1 := u1) (pk := pk) (u2 := u2) (now0 := now0) (size := size) (k := k) (b := b) (q := a.q0) (l := a.l) (q1 := a.q1) (q2 := a.q2) (q3 := a.q3) (rest := own ++ led3 w a rate u1 pk u2 y3 t) rfl B F₂ X Tp hl₂ (fun p hp => N₂ p ((mvA (b := bb2 w a.A3 true a.T3 rate u1 pk u2 y3.x3 []) led_m3).mp hp)) (hinc := ?i13) (hl := by omega) (hq := by omega) (hx0 := by omega) (hx0m := List.mem_append_right _ (.tail _ (.tail _ (.tail _ (.tail _ (.tail _ (.tail _ (.tail _ (.head _))))))))) (hne := ?i23) (hs := hs3) (hD := hok.2.2.2.1) (I := hok.2.2.2.2) (hp1 := hp1) (hp2 := hp2) (h1 := h1) (h2 := h2) (h3 := h3) (h4 := h4) (h7 := h7) (h8 := h8) (h9 := h9) (h10 := h10) (hk := hk) (ret := ?i33)
  case i13 => simp only [inc, incF, and_true]; omega
  case i23 => exact ne_own hown (hsz _ (ch_at 25 rfl)) (hsz _ (ch_at 28 rfl)) (hsz _ (ch_at 30 rfl)) (inc_ix (l := a.ch) hI (i := 0) (j := 25) (by decide) rfl rfl) (inc_ix (l := a.ch) hI (i := 0) (j := 28) (by decide) rfl rfl) (inc_ix (l := a.ch) hI (i := 0) (j := 30) (by decide) rfl rfl) (ne_led3 hI ht)
  intro m₃ o₃ f₃ sec₃ g1₃ t1₃ g2₃ t2₃ tg1 v13 v14 v23 v24 h₃ tk₃ hI₃ hD₃ hM₃ hG F₃ N₃
  let y4 : St4 := { y3 with x3 := ⟨o₃, v13, v14, v23, v24, g1₃, t1₃, g2₃, t2₃, f₃, sec₃⟩ }
  have hok : y4.Ok w rate u1 pk u2 (now0 + (k : Int)) (now0 + (k : Int)) (now0 + (k : Int)) (now0 + (k : Int)) := ⟨hok.1, hok.2.1, hok.2.2.1, ⟨hD₃, hI₃⟩⟩
  have hM : ∀ z, z ≠ Str.ofString "policer" → z ≠ Str.ofString "own" → z ≠ Str.ofString "fill" → z ≠ Str.ofString "tell" → z ≠ Str.ofString "is_aware" → z ≠ Str.ofString "come" → z ≠ Str.ofString "due" → z ≠ Str.ofString "green" → m₃ z = m z := fun z e1 e2 e3 e4 e5 e6 e7 e8 => (hM₃ z e6 e7 e8).trans (hm₂ z e1 e2 e3 e4 e5 e6 e7 e8)
  refine LoopStep3.next (LoopStep2.intro (news₂ := led w a rate u1 pk u2 y4 t) F₃ (fun p hp => N₃ p ((mvA (b := bb2 w a.A3 true a.T3 rate u1 pk u2 y4.x3 []) led_m3).mpr hp)) rfl ?_)
  clear N₁ N₂ N₃ F₁ F₂ F₃ hown hl₂ ho₂ a1 a2 a3 a4 a5 hg₂ hm₂ hM₃
  exact Unr.zero fun h' tk' F₄ N₄ => ret _ y4 gx tg1 _ _ hok hgx hgs hgf hM hG F₄ N₄
end
section
variable {w : World} {lo : List Str} {me : ExcName → Option Value} {mg mb : Str → Option Value}
    {dp un : Nat} {gd : Option (List Code)} {cn : Str} {cs : Scope} {a : Addr} {ccd : Value} {cl : List (Str × Addr)} {outer : List Env} {A₀ : Around} {base h₀ : Heap} {L : Addr} {m : Str → Option Value} {s : Shared} {Q E : Value → Shared → Prop}
/-- a pick out of a list just made: the list is forgotten -/
theorem pick_callU {d l : Addr} {o : Obj} {x y : Int} {vs : List Value} {c : Nat} {rest : List (Addr × Obj)}
    (C : Cal w lo me mg mb dp un cs A₀ base outer h₀ L s.heap m) (N : News h₀ L s.heap ((l, PySem.W.listOf vs.toArray c) :: (d, o) :: rest)) (hl : l ≠ d)
    (hne : ∀ p ∈ rest, p.1 ≠ d) (hs : (d == sysModules) = false) (hD : DI w o (SrcD x y))
    (hx : 0 ≤ x) (hy : 0 ≤ y) (hy2 : y < 2147483648) (hv : 0 < vs.length) (hv2 : vs.length < 100) (hdp : dp + 30 < recursionLimit) (hun : un + 300 < cLine)
    (ret : ∀ v o' x' y' h' tk', v ∈ vs → 0 ≤ x' → 0 ≤ y' → y' < 2147483648 → DI w o' (SrcD x' y') →
      Fr h₀ L h' m → News h₀ L h' ((d, o') :: rest) → Q v { s with heap := h', toks := tk' }) :
    wpAny (model PySem.Challenge.rw_pc0363_01.row.prog w) (ktrTop dp un gd cn cs L a ccd cl outer) (call (.ref 220) [.ref d, .ref l]) Q E s := by
  refine pick_call (rest := (l, PySem.W.listOf vs.toArray c) :: rest) C ?_ (.head _) ?_ hs hD hx hy hy2 hv hv2 hdp hun ?_
  · intro p hp
    rcases List.mem_cons.mp hp with rfl | hp
    · exact N _ (.tail _ (.head _))
    · rcases List.mem_cons.mp hp with rfl | hp
      · exact N _ (.head _)
      · exact N _ (.tail _ (.tail _ hp))
  · intro p hp
    rcases List.mem_cons.mp hp with rfl | hp
    · exact hl
    · exact hne p hp
  · intro v o' x' y' h' tk' h1 h2 h3 h4 h5 F' N'
    refine ret v o' x' y' h' tk' h1 h2 h3 h4 h5 F' fun p hp => ?_
    rcases List.mem_cons.mp hp with rfl | hp
    · exact N' _ (.head _)
    · exact N' _ (.tail _ (.tail _ hp))
end
theorem pick_step {v : Value} {t1 t2 t3 t4 : Tok} (h : v ∈ [Value.int 0 t1, .int 1 t2, .int 7 t3, .int 30 t4]) : ∃ (k : Nat) (t : Tok), v = .int (k : Int) t ∧ k ≤ 30 := by
  simp only [List.mem_cons, List.not_mem_nil, or_false] at h
  rcases h with rfl | rfl | rfl | rfl
  · exact ⟨0, _, rfl, by decide⟩
  · exact ⟨1, _, rfl, by decide⟩
  · exact ⟨7, _, rfl, by decide⟩
  · exact ⟨30, _, rfl, by decide⟩
theorem pick_size {v : Value} {t1 t2 t3 t4 t5 t6 : Tok} (h : v ∈ [Value.int 1 t1, .int 3 t2, .int 10 t3, .int 12 t4, .int 64 t5, .int 0 t6]) : ∃ (z : Int) (t : Tok), v = .int z t ∧ 0 ≤ z ∧ z ≤ 70 := by
  simp only [List.mem_cons, List.not_mem_nil, or_false] at h
  rcases h with rfl | rfl | rfl | rfl | rfl | rfl <;> exact ⟨_, _, rfl, by decide, by decide⟩
theorem pick_before {v : Value} {t1 t2 t3 t4 : Tok} (h : v ∈ [Value.none, .str (Str.ofString "green") t1, .str (Str.ofString "yellow") t2, .str (Str.ofString "red") t3, .str (Str.ofString "green") t4]) : ∃ (b : Option Col) (t : Tok), v = bv b t := by
  simp only [List.mem_cons, List.not_mem_nil, or_false] at h
  rcases h with rfl | rfl | rfl | rfl | rfl
  · exact ⟨none, default, rfl⟩
  · exact ⟨some .g, _, rfl⟩
  · exact ⟨some .y, _, rfl⟩
  · exact ⟨some .r, _, rfl⟩
  · exact ⟨some .g, _, rfl⟩
theorem led_src {w : World} {a : All4} {r u1 pk u2 : Int} {x : St4} {t : List (Addr × Obj)} (e p : Addr × Obj) : p ∈ led w a r u1 pk u2 x (e :: t) ↔ p ∈ e :: led w a r u1 pk u2 x t := by
  simp only [led, List.mem_cons]
  exact iff_of_eq (by ac_rfl)
theorem led_srcN {w : World} {a : All4} {r u1 pk u2 : Int} {x : St4} {t : List (Addr × Obj)} {e : Addr × Obj} {h₀ h : Heap} {L : Addr} (N : News h₀ L h (e :: led w a r u1 pk u2 x t)) : News h₀ L h (led w a r u1 pk u2 x (e :: t)) := fun p hp => N p ((led_src e p).mp hp)
theorem led_srcM {w : World} {a : All4} {r u1 pk u2 : Int} {x : St4} {t : List (Addr × Obj)} {e : Addr × Obj} {h₀ h : Heap} {L : Addr} (N : News h₀ L h (led w a r u1 pk u2 x (e :: t))) : News h₀ L h (e :: led w a r u1 pk u2 x t) := fun p hp => N p ((led_src e p).mpr hp)
theorem outer_q {f f' g x u r n k : Int} (h : f + 100 * g ≤ 100 * u + r * n) (h' : f' + 100 * x ≤ f + r * k) : f' + 100 * (g + x) ≤ 100 * u + r * (n + k) := by
  rw [Int.mul_add, Int.mul_add]
  omega
section
variable {w : World} {lo : List Str} {me : ExcName → Option Value} {mg mb : Str → Option Value} {g : Heap} {L fa : Addr} {cd : Value} {m : Str → Option Value} {s : Shared} {Q : Flow → Shared → Prop} {E : Value → Shared → Prop}
local macro_rules | `(tactic| walk_at "call ref") => `(tactic| (k_here; refine stop ?_))
local macro_rules | `(tactic| walk_at "exec For") => `(tactic| (k_here; refine stop ?_))
local macro_rules | `(tactic| walk_at "exec For Tuple Name cons nil") => `(tactic| (k_here; refine stop ?_))
set_option maxRecDepth 100000 in
set_option maxHeartbeats 4000000 in
/-- one turn of the law's outer loop -/
theorem outer_turn {ob : List Stmt} {sc : Scope} (hib : outerOf PySem.Challenge.pw_pc0363_01 = some (ob, sc))
    {a : All4} {rate u1 pk u2 now0 green xs ys : Int} {x : St4} {tr tu tn tg : Tok} {sd : Nat} {so : Obj} {t : List (Addr × Obj)}
    (B : Below callerA g [] g) (F : Fr g L s.heap m) (X : (Mine.hd.heap_39 w.params).In g) (Tp : Top topProg lo me mg mb g)
    (hm : ∀ p ∈ [(Str.ofString "source", Value.ref sd), (Str.ofString "rate", Value.int rate tr), (Str.ofString "burst", Value.int u1 tu), (Str.ofString "now", Value.int now0 tn), (Str.ofString "pairs", Value.ref a.l), (Str.ofString "green", Value.int green tg)], m p.1 = some p.2)
    (N : News g L s.heap ((sd, so) :: led w a rate u1 pk u2 x t)) (hI : a.Inc) (hne : ∀ p ∈ led w a rate u1 pk u2 x t, p.1 ≠ sd) (ht : ∀ p ∈ (sd, so) :: t, p.1 ∉ a.ch)
    (hsS : (sd == sysModules) = false) (hs0 : (a.A0.own == sysModules) = false) (hs1 : (a.A1.own == sysModules) = false) (hs2 : (a.A2.own == sysModules) = false) (hs3 : (a.A3.own == sysModules) = false)
    (hD : DI w so (SrcD xs ys)) (hx : 0 ≤ xs) (hy : 0 ≤ ys) (hy2 : ys < 2147483648)
    (hok : x.Ok w rate u1 pk u2 now0 now0 now0 now0) (hinv : x.x0.f + 100 * green ≤ 100 * u1 + rate * now0)
    (h1 : 0 ≤ rate) (h2 : rate ≤ 400) (hp1 : 0 ≤ pk) (hp2 : pk ≤ 400) (h3 : 1 ≤ u1) (h4 : u1 ≤ 70) (h7 : 1 ≤ u2) (h8 : u2 ≤ 70)
    (hE : PassesOwn (model PySem.Challenge.rw_pc0363_01.row.prog w) (callerA.deeper (envOf (Str.ofString "law") sc L fa cd)) (envOf (Str.ofString "law") sc L fa cd) E)
    (ret : ∀ (m' : Str → Option Value) (x' : St4) (so' : Obj) (now' green' xs' ys' : Int) (tn' tg' : Tok) h' tk', x'.Ok w rate u1 pk u2 now' now' now' now' → x'.x0.f + 100 * green' ≤ 100 * u1 + rate * now' → DI w so' (SrcD xs' ys') → 0 ≤ xs' → 0 ≤ ys' → ys' < 2147483648 →
      (∀ z, z ≠ Str.ofString "step" → z ≠ Str.ofString "size" → z ≠ Str.ofString "now" → z ≠ Str.ofString "before" → z ≠ Str.ofString "policer" → z ≠ Str.ofString "own" → z ≠ Str.ofString "fill" → z ≠ Str.ofString "tell" → z ≠ Str.ofString "is_aware" → z ≠ Str.ofString "come" → z ≠ Str.ofString "due" → z ≠ Str.ofString "green" → m' z = m z) →
      m' (Str.ofString "now") = some (.int now' tn') → m' (Str.ofString "green") = some (.int green' tg') → Fr g L h' m' → News g L h' ((sd, so') :: led w a rate u1 pk u2 x' t) → Q .next { s with heap := h', toks := tk' }) :
    wpAny (model PySem.Challenge.rw_pc0363_01.row.prog w) (callerA.deeper (envOf (Str.ofString "law") sc L fa cd)) (execs ob (envOf (Str.ofString "law") sc L fa cd)) Q E s := by
  have hib2 := Option.some.inj (hib : some _ = some (ob, sc))
  cases hib2
  have F' := fr_kstB F hm
  dsimp only [kstB] at F'
  clear F
  w_on
  w_strict (
    (revert X; k_fill; intro X)
    (try k_fold)
    k_steps
    repeat (any_goals (unfold Stop; (first | ((with_reducible show wpAny _ _ (call (Value.ref 220) _) _ _ _); k_dflt (refine' pick_callU (by exact ⟨by k_asm, by k_asm, by k_asm, by k_asm, by rfl, by ktr_room, by ktr_units⟩) (by first | k_asm | (rename News _ _ _ _ => zkN7; exact sub_second zkN7)) (by first | k_ne | exact Nat.ne_of_gt (by omega)) (by assumption) (by assumption) (by assumption) (by assumption) (by assumption) (by assumption) (by exact Nat.succ_pos _) (by exact (by simp)) (by ktr_room) (by ktr_units) ?_); k_whole; intro zv9 zo9 zx9 zy9 zh9 ztk9 zhv9 zhx9 zhy9 zhyy9 zhD9 zF9 zN9; (first | (obtain ⟨zk9, zkt9, zhk9, zhkk9⟩ := pick_step zhv9) | (obtain ⟨zz9, zzt9, zhk9, zhz9, zhzz9⟩ := pick_size zhv9) | (obtain ⟨zb9, zbt9, zhk9⟩ := pick_before zhv9)); subst zhk9; clear zhv9)); k_steps))
    unfold Stop
    (rename News _ _ _ _ => kN9)
    (rename Fr _ _ _ _ => kF9)
    (rename DI _ _ _ => hD9)
    refine' inner_loop (a := a) (t := (sd, _) :: t) (x := x) (now0 := now0) rfl B kF9 X Tp (fun p hp => ?f1) (led_srcN (sub_tail kN9)) hI ?f3 hs0 hs1 hs2 hs3 hok h1 h2 hp1 hp2 h3 h4 h7 h8 ?g1 ?g2 ?g3 hE ?f4
    (case f1 =>
      simp only [List.mem_cons, List.not_mem_nil, or_false] at hp
      rcases hp with rfl | rfl | rfl | rfl | rfl | rfl <;> with_unfolding_all rfl)
    (case f3 =>
      intro p hp
      rcases List.mem_cons.mp hp with rfl | hp
      · exact ht (sd, so) (.head _)
      · exact ht p (.tail _ hp))
    (case g1 => assumption)
    (case g2 => assumption)
    (case g3 => assumption)
    intro m8 x8 gx8 tg8 h8' tk8 hok8 hgx8 hgs8 hgf8 hM8 hG8 kF8 kN8
    have kN7 := led_srcM kN8
    have hq8 := outer_q hinv hgf8
    have hf8 : 0 ≤ x8.x0.f := hok8.1.2.f0
    have kF7 := fr_kstB (ps := [(Str.ofString "source", Value.ref sd), (Str.ofString "rate", Value.int rate tr), (Str.ofString "burst", Value.int u1 tu), (Str.ofString "now", Value.int (now0 + _) _), (Str.ofString "pairs", Value.ref a.l), (Str.ofString "green", Value.int (green + gx8) tg8)]) kF8 (by
      intro p hp
      simp only [List.mem_cons, List.not_mem_nil, or_false] at hp
      rcases hp with rfl | rfl | rfl | rfl | rfl | rfl
      · exact (hM8 (Str.ofString "source") (by decide) (by decide) (by decide) (by decide) (by decide) (by decide) (by decide) (by decide)).trans (by with_unfolding_all rfl)
      · exact (hM8 (Str.ofString "rate") (by decide) (by decide) (by decide) (by decide) (by decide) (by decide) (by decide) (by decide)).trans (by with_unfolding_all rfl)
      · exact (hM8 (Str.ofString "burst") (by decide) (by decide) (by decide) (by decide) (by decide) (by decide) (by decide) (by decide)).trans (by with_unfolding_all rfl)
      · exact (hM8 (Str.ofString "now") (by decide) (by decide) (by decide) (by decide) (by decide) (by decide) (by decide) (by decide)).trans (by with_unfolding_all rfl)
      · exact (hM8 (Str.ofString "pairs") (by decide) (by decide) (by decide) (by decide) (by decide) (by decide) (by decide) (by decide)).trans (by with_unfolding_all rfl)
      · exact hG8)
    dsimp only [kstB] at kF7
    clear kF9 kN9 kN8
    k_steps
    repeat (any_goals (unfold Stop; (first | ((with_reducible show wpAny _ _ (call (Value.ref 220) _) _ _ _); k_dflt (refine' pick_callU (by exact ⟨by k_asm, by k_asm, by k_asm, by k_asm, by rfl, by ktr_room, by ktr_units⟩) (by first | k_asm | (rename News _ _ _ _ => zkN7; exact sub_second zkN7)) (by first | k_ne | exact Nat.ne_of_gt (by omega)) (by assumption) (by assumption) (by assumption) (by assumption) (by assumption) (by assumption) (by exact Nat.succ_pos _) (by exact (by simp)) (by ktr_room) (by ktr_units) ?_); k_whole; intro zv9 zo9 zx9 zy9 zh9 ztk9 zhv9 zhx9 zhy9 zhyy9 zhD9 zF9 zN9; (first | (obtain ⟨zk9, zkt9, zhk9, zhkk9⟩ := pick_step zhv9) | (obtain ⟨zz9, zzt9, zhk9, zhz9, zhzz9⟩ := pick_size zhv9) | (obtain ⟨zb9, zbt9, zhk9⟩ := pick_before zhv9)); subst zhk9; clear zhv9)); k_steps))
    refine' ret m8 x8 _ _ _ _ _ _ tg8 _ _ hok8 hq8 hD9 (by assumption) (by assumption) (by assumption) (fun z a1 a2 a3 a4 a5 a6 a7 a8 a9 b1 b2 b3 => (hM8 z a5 a6 a7 a8 a9 b1 b2 b3).trans ?eM) ?en hG8 kF8 kN7
    (case eM =>
      rw [if_neg a3, if_neg a4, if_neg a1, if_neg a2]
      exact kstB_eq hm fun _ => rfl)
    (case en => exact (hM8 (Str.ofString "now") (by decide) (by decide) (by decide) (by decide) (by decide) (by decide) (by decide) (by decide)).trans (by with_unfolding_all rfl)))
end
/-- the law's outer loop, whole -/
def outerFor (p : Program) : Option (Stmt × Scope) :=
  match p.main.body.getLast? with
  | some (PySem.Stmt.FunctionDef _ _ b _ _ _ sc _ _ _) => match (b[4]? : Option PySem.Stmt) with
    | some s => some (s, sc)
    | none => none
  | _ => none
/-- where the outer loop stands -/
structure Oc where
  (so : Obj) (xs ys : Int) (x : St4) (now green : Int) (tn tg : Tok)
section
variable {w : World} {a : All4} {r u1 pk u2 : Int} {x : St4} {t : List (Addr × Obj)}
theorem led_app {own : List (Addr × Obj)} : led w a r u1 pk u2 x t ++ own = led w a r u1 pk u2 x (t ++ own) := rfl
end
theorem not_stored {z : Str} {l : List Str} (h : l.contains z = false) : ∀ y ∈ l, z ≠ y := by
  intro y hy e
  subst e
  rw [List.contains_iff_mem.mpr hy] at h
  cases h
def oStored : List Str := [Str.ofString "step", Str.ofString "size", Str.ofString "before", Str.ofString "policer", Str.ofString "own", Str.ofString "fill", Str.ofString "tell", Str.ofString "is_aware", Str.ofString "come", Str.ofString "due"]
section
variable {w : World} {lo : List Str} {me : ExcName → Option Value} {mg mb : Str → Option Value} {g : Heap} {L fa : Addr} {cd : Value} {m : Str → Option Value} {s : Shared} {Q : Flow → Shared → Prop} {E : Value → Shared → Prop}
local macro_rules | `(tactic| walk_at "exec For") => `(tactic| (k_here; (rename Fr _ _ _ _ => lF'); (with_unfolding_all refine' For_invVF lF' ?k1 ?k2 ?_; (case k1 => exact rfl); (case k2 => exact rfl); k_whole)))
local macro_rules | `(tactic| walk_at "exec For Name Call cons nil") => `(tactic| (k_here; (rename Fr _ _ _ _ => lF'); (with_unfolding_all refine' For_invVF lF' ?k1 ?k2 ?_; (case k1 => exact rfl); (case k2 => exact rfl); k_whole)))
local macro_rules | `(tactic| walk_at "pyIter ref") => `(tactic| (k_here; refine stop ?_))
local macro_rules | `(tactic| walk_at "call ref") => `(tactic| (k_here; refine stop ?_))
set_option maxRecDepth 100000 in
set_option maxHeartbeats 4000000 in
/-- the law's outer loop -/
theorem outer_loop {fs : Stmt} {sc : Scope} (hib : outerFor PySem.Challenge.pw_pc0363_01 = some (fs, sc))
    {a : All4} {rate u1 pk u2 xs ys : Int} {x : St4} {tr tu tn tg : Tok} {sd : Nat} {so : Obj} {t : List (Addr × Obj)}
    (B : Below callerA g [] g) (F : Fr g L s.heap m) (X : (Mine.hd.heap_39 w.params).In g) (Tp : Top topProg lo me mg mb g)
    (hm : ∀ p ∈ [(Str.ofString "source", Value.ref sd), (Str.ofString "rate", Value.int rate tr), (Str.ofString "burst", Value.int u1 tu), (Str.ofString "now", Value.int 0 tn), (Str.ofString "pairs", Value.ref a.l), (Str.ofString "green", Value.int 0 tg)], m p.1 = some p.2)
    (N : News g L s.heap ((sd, so) :: led w a rate u1 pk u2 x t)) (hI : a.Inc) (hne : ∀ z ∈ a.ch, sd < z) (ht : ∀ p ∈ t, p.1 ∉ a.ch ∧ p.1 ≠ sd)
    (hsS : (sd == sysModules) = false) (hs0 : (a.A0.own == sysModules) = false) (hs1 : (a.A1.own == sysModules) = false) (hs2 : (a.A2.own == sysModules) = false) (hs3 : (a.A3.own == sysModules) = false)
    (hD : DI w so (SrcD xs ys)) (hx : 0 ≤ xs) (hy : 0 ≤ ys) (hy2 : ys < 2147483648)
    (hok : x.Ok w rate u1 pk u2 0 0 0 0) (hinv : x.x0.f ≤ 100 * u1)
    (h1 : 0 ≤ rate) (h2 : rate ≤ 400) (hp1 : 0 ≤ pk) (hp2 : pk ≤ 400) (h3 : 1 ≤ u1) (h4 : u1 ≤ 70) (h7 : 1 ≤ u2) (h8 : u2 ≤ 70)
    (hE : PassesOwn (model PySem.Challenge.rw_pc0363_01.row.prog w) (callerA.deeper (envOf (Str.ofString "law") sc L fa cd)) (envOf (Str.ofString "law") sc L fa cd) E)
    (ret : ∀ (m' : Str → Option Value) (news' : List (Addr × Obj)) h' tk', (∀ p ∈ t, p ∈ news') → Fr g L h' m' → News g L h' news' → Q .next { s with heap := h', toks := tk' }) :
    wpAny (model PySem.Challenge.rw_pc0363_01.row.prog w) (callerA.deeper (envOf (Str.ofString "law") sc L fa cd)) (exec fs (envOf (Str.ofString "law") sc L fa cd)) Q E s := by
  have hib2 := Option.some.inj (hib : some _ = some (fs, sc))
  cases hib2
  have F' := fr_kstB F hm
  have hinv' : x.x0.f + 100 * 0 ≤ 100 * u1 + rate * 0 := by omega
  have hneS : ∀ p ∈ led w a rate u1 pk u2 x t, p.1 ≠ sd := fun p hp => (led_in hp).elim (fun h => Nat.ne_of_gt (hne _ h)) fun ⟨q, hq, e⟩ => e ▸ (ht q hq).2
  refine For_invVF F rfl rfl ?_ (fun _ => rfl) hE
  dsimp only [kstB] at F'
  clear F
  w_on
  w_strict (
    (revert X; k_fill; intro X)
    (try k_fold)
    k_steps
    repeat (any_goals (unfold Stop; (first | ((with_reducible show wpAny _ _ (call (Value.ref 213) _) _ _ _); k_dflt (refine' next_call (by exact ⟨by k_asm, by k_asm, by k_asm, by k_asm, by rfl, by ktr_room, by ktr_units⟩) (by k_asm) (by assumption) (by assumption) (by assumption) (by assumption) (by assumption) (by assumption) (by omega) (by omega) ?_); k_whole; intro zr9 zt9 zo9 zx9 zy9 zh9 ztk9 zhr0 zhr1 zhx9 zhy9 zhyy9 zhD9 zF9 zN9)); k_steps))
    unfold Stop
    (rename Fr _ _ _ _ => lF')
    (rename News _ _ _ _ => lN')
    (rename IsRange _ _ _ _ _ _ _ _ => rgX)
    (rename DI _ _ _ => hD9)
    refine' kst_range (σ := Oc) (n := (6 + _ : Int).toNat) (fun c => (sd, c.so) :: led w a rate u1 pk u2 c.x t) (fun c => [(Str.ofString "now", Value.int c.now c.tn), (Str.ofString "green", Value.int c.green c.tg)])
      (fun c => c.x.Ok w rate u1 pk u2 c.now c.now c.now c.now ∧ c.x.x0.f + 100 * c.green ≤ 100 * u1 + rate * c.now ∧ DI w c.so (SrcD c.xs c.ys) ∧ 0 ≤ c.xs ∧ 0 ≤ c.ys ∧ c.ys < 2147483648)
      oStored (fun _ _ => True) ⟨_, _, _, x, 0, 0, tn, tg⟩ (by rfl) rgX (small_one (by omega) (by omega) (by omega) (by omega)) ?kn lF' lN' ⟨hok, hinv', hD9, by assumption, by assumption, by assumption⟩ ?kp trivial ?kt ?kd
    (case kn => rw [rangeSize_nat, Int.sub_zero])
    (case kp =>
      intro p hp
      simp only [List.mem_cons, List.not_mem_nil, or_false] at hp
      rcases hp with rfl | rfl <;> with_unfolding_all rfl)
    (case kt =>
      clear lF' lN' rgX hD9
      intro c pre kk t9 u9 h9 tk9 own9 hkk hlt hoff hfacts hP F1 N1
      obtain ⟨so1, xs1, ys1, x1, now1, green1, tn1, tg1⟩ := c
      obtain ⟨f1, f2, f3, f4, f5, f6⟩ := hfacts
      dsimp only at f1 f2 f3 f4 f5 f6
      have hof : ∀ p ∈ own9, p.1 ∉ a.ch ∧ p.1 ≠ sd := fun p hp => ⟨fun hz => hoff p hp p.1 (.tail _ (ch_led hz)) rfl, fun hz => hoff p hp sd (.head _) hz⟩
      have ht9 : ∀ p ∈ t ++ own9, p.1 ∉ a.ch ∧ p.1 ≠ sd := fun p hp => (List.mem_append.mp hp).elim (ht p) (hof p)
      refine' outer_turn (a := a) (t := t ++ own9) (x := x1) (now0 := now1) (green := green1) (xs := xs1) (ys := ys1) (tr := tr) (tu := tu) (tn := tn1) (tg := tg1) (so := so1) rfl B F1 X Tp ?o1 ?o2 hI (fun p hp => (led_in hp).elim (fun h => Nat.ne_of_gt (hne _ h)) fun ⟨q, hq, e⟩ => e ▸ (ht9 q hq).2) ?o3 hsS hs0 hs1 hs2 hs3 f3 f4 f5 f6 f1 f2 h1 h2 hp1 hp2 h3 h4 h7 h8 hE ?o4
      (case o1 =>
        intro p hp
        simp only [List.mem_cons, List.not_mem_nil, or_false] at hp
        rcases hp with rfl | rfl | rfl | rfl | rfl | rfl
        · with_unfolding_all rfl
        · with_unfolding_all rfl
        · with_unfolding_all rfl
        · with_unfolding_all rfl
        · with_unfolding_all rfl
        · with_unfolding_all rfl)
      (case o2 => exact N1)
      (case o3 =>
        intro p hp
        rcases List.mem_cons.mp hp with rfl | hp
        · exact fun hz => Nat.lt_irrefl _ (hne _ hz)
        · exact (ht9 p hp).1)
      (case o4 =>
        intro m' x' so' now' green' xs' ys' tn' tg' h' tk' g1 g2 g3 g4 g5 g6 gM gn gg F2 N2
        change InvEndN _ _ _ _ _ _ _
        refine' kst_end (Oc.mk so' xs' ys' x' now' green' tn' tg') F2 N2 (fun p hp => ?e1) (fun p hp => ?e2) rfl ⟨g1, g2, g3, g4, g5, g6⟩ ?e3 ?e4 trivial
        (case e1 => exact List.mem_append_left own9 hp)
        (case e2 => exact List.mem_append_right ((sd, so') :: led w a rate u1 pk u2 x' t) hp)
        (case e3 =>
          intro p hp
          simp only [List.mem_cons, List.not_mem_nil, or_false] at hp
          rcases hp with rfl | rfl
          · exact gn
          · exact gg)
        (case e4 =>
          intro z hz hps hst
          have hq := not_stored hst
          have a1 := hps _ (.head _)
          have a2 := hps _ (.tail _ (.head _))
          refine (gM z (hq _ (by simp [oStored])) (hq _ (by simp [oStored])) a1 (hq _ (by simp [oStored])) (hq _ (by simp [oStored])) (hq _ (by simp [oStored])) (hq _ (by simp [oStored])) (hq _ (by simp [oStored])) (hq _ (by simp [oStored])) (hq _ (by simp [oStored])) (hq _ (by simp [oStored])) a2).trans ?_
          rw [if_neg hz]
          dsimp only [kstB]
          dsimp only at a1 a2
          rw [if_neg a1, if_neg a2, hst]
          rfl)))
    (case kd =>
      intro c u9 h9 tk9 hfacts hP F1 N1
      exact ret _ _ h9 tk9 (fun p hp => .tail _ (led_t hp)) F1 N1))
end
/-- six calls in a row, as the law's fixed run asks for them -/
theorem fixed_law {c1 c2 c3 c4 c5 c6 : Col} {a1 b1 d1 e1 a2 b2 d2 e2 a3 b3 d3 e3 a4 b4 d4 e4 a5 b5 d5 e5 a6 b6 d6 e6 : Int}
    (h1 : R1 .g 4 0 200 4 (4 * 100) 0 0 3 (3 * 100) 0 c1 a1 b1 d1 e1) (h2 : R1 .g 3 0 200 4 a1 b1 0 3 d1 e1 c2 a2 b2 d2 e2) (h3 : R1 .g 1 0 200 4 a2 b2 0 3 d2 e2 c3 a3 b3 d3 e3)
    (h4 : R1 .g 4 350 200 4 a3 b3 0 3 d3 e3 c4 a4 b4 d4 e4) (h5 : R1 .g 3 350 200 4 a4 b4 0 3 d4 e4 c5 a5 b5 d5 e5) (h6 : R1 .g 1 350 200 4 a5 b5 0 3 d5 e5 c6 a6 b6 d6 e6) :
    c1 = .g ∧ c2 = .y ∧ c3 = .r ∧ c4 = .g ∧ c5 = .y ∧ c6 = .r := by
  simp [R1, fG, fT, fO, mn] at h1
  obtain ⟨rfl, rfl, rfl, rfl, rfl⟩ := h1
  simp [R1, fG, fT, fO, mn] at h2
  obtain ⟨rfl, rfl, rfl, rfl, rfl⟩ := h2
  simp [R1, fG, fT, fO, mn] at h3
  obtain ⟨rfl, rfl, rfl, rfl, rfl⟩ := h3
  simp [R1, fG, fT, fO, mn] at h4
  obtain ⟨rfl, rfl, rfl, rfl, rfl⟩ := h4
  simp [R1, fG, fT, fO, mn] at h5
  obtain ⟨rfl, rfl, rfl, rfl, rfl⟩ := h5
  simp [R1, fG, fT, fO, mn] at h6
  exact ⟨rfl, rfl, rfl, rfl, rfl, h6.1⟩
theorem six_of {x dx b1 d1 b2 d2 : Nat} {rest : List (Addr × Obj)} (h0 : ∀ p ∈ rest, p.1 < dx) (h1 : dx < x) (h2 : x < d1) (h3 : d1 < b1) (h4 : b1 < d2) (h5 : d2 < b2) : Six x dx b1 d1 b2 d2 rest :=
  ⟨fun p hp => Nat.ne_of_lt (Nat.lt_trans (h0 p hp) (Nat.lt_trans h1 h2)), fun p hp => Nat.ne_of_lt (Nat.lt_trans (h0 p hp) (Nat.lt_trans h1 (Nat.lt_trans h2 (Nat.lt_trans h3 h4)))),
    Nat.ne_of_lt h2, Nat.ne_of_lt (Nat.lt_trans h1 h2), Nat.ne_of_gt h3, Nat.ne_of_gt (Nat.lt_trans h3 (Nat.lt_trans h4 h5)), Nat.ne_of_lt (Nat.lt_trans h2 (Nat.lt_trans h3 h4)), Nat.ne_of_lt (Nat.lt_trans h1 (Nat.lt_trans h2 (Nat.lt_trans h3 h4))), Nat.ne_of_lt h4, Nat.ne_of_gt h5, Nat.ne_of_lt (Nat.lt_trans h3 h4)⟩
theorem six_turn {h₀ h : Heap} {L : Addr} {e1 e2 e3 e4 e5 e6 : Addr × Obj} {l : List (Addr × Obj)} (N : News h₀ L h (e1 :: e2 :: e3 :: e4 :: e5 :: e6 :: l)) : News h₀ L h (e5 :: e6 :: e3 :: e4 :: e1 :: e2 :: l) := fun p hp => N p (by
  simp only [List.mem_cons] at hp ⊢
  rcases hp with h | h | h | h | h | h | h <;> simp only [h, true_or, or_true])
section
variable {w : World} {lo : List Str} {me : ExcName → Option Value} {mg mb : Str → Option Value}
    {dp un : Nat} {gd : Option (List Code)} {cn : Str} {csc : Scope} {a : Addr} {ccd : Value} {cl : List (Str × Addr)} {outer : List Env} {A₀ : Around} {base h₀ : Heap} {L : Addr} {m : Str → Option Value} {s : Shared} {Q E : Value → Shared → Prop}
local macro_rules | `(tactic| walk_at "call ref") => `(tactic| (k_here; refine stop ?_))
local macro_rules | `(tactic| walk_at "call ref") => `(tactic| (k_here; (with_reducible show wpAny _ _ (call (Value.ref 162) _) _ _ _); refine stop ?_))
set_option maxRecDepth 100000 in
set_option maxHeartbeats 8000000 in
/-- `_law_fixed_right()` -/
theorem fixed_call {rest : List (Addr × Obj)}
    (C : Cal w lo me mg mb dp un csc A₀ base outer h₀ L s.heap m) (N : News h₀ L s.heap rest) (hdp : dp + 80 < recursionLimit) (hun : un + 800 < cLine)
    (ret : ∀ h' tk', Fr h₀ L h' m → News h₀ L h' rest → Q (.bool true) { s with heap := h', toks := tk' }) :
    wpAny (model PySem.Challenge.rw_pc0363_01.row.prog w) (ktrTop dp un gd cn csc L a ccd cl outer) (call (.ref 276) []) Q E s := by
  obtain ⟨B, F, X, T, hk, _, _⟩ := C
  w_on
  w_strict (
    (revert X; k_fill; intro X)
    refine wpAny_call ?_
    k_dflt (refine' code_def ?k1 ?k2 ?k3 ?k4 ?k5 ?kA ?kF ?kK ?k6 ?k7 ?k8 ?k9 ?kB ?_ ?c2 ?c3 ?c4 ?c5; (case kA => exact rfl); (case kF => exact rfl); (case kK => assumption); (case k1 => k_asm); (case k2 => k_asm); (case k3 => k_asm); (case k4 => k_asm); (case k5 => k_asm); (case k6 => k_is); (case k7 => k_is); (case k8 => ktr_room); (case k9 => first | exact BindsTo.of_eq rfl | exact binds_K (by k_in) rfl (by k_is) rfl rfl rfl); (case c5 => decide); (case kB => exact locs rfl); (case c2 => exact rfl); (case c3 => exact rfl); (case c4 => exact rfl); k_whole; intro zg' zL' zh' zFG' zF' zN' zB' zX' zT'; (try dsimp only); (try k_lift zB'); (try k_fold))
    k_steps
    repeat (any_goals (unfold Stop; (first | (k_dflt (refine' single_make0 (by exact ⟨by k_asm, by k_asm, by k_asm, by k_asm, by rfl, by ktr_room, by ktr_units⟩) (by k_asm) (by ktr_room) (by ktr_units) ?t1 ?t2 ?t3 ?t4 ?t5 ?_; all_goals (try decide)); k_whole; intro zT9 zx9 zdx9 zb19 zd19 zb29 zd29 zh9 ztk9 zl1 zl2 zl3 zl4 zl5 zl6 zF9 zN9; (have zhS9 := six_of zl1 zl2 zl3 zl4 zl5 zl6); (have zN8 := six_turn zN9); clear zN9)); k_steps))
    unfold Stop
    refine' color1_call0 ?c1 ?n1 ?d1 ?u1 ?S1 ?q11 ?q21 ?q31 ?q41 ?q51 ?q61 ?q71 ?q81 ?q91 ?q01 ?_
    (case c1 => exact ⟨by k_asm, by k_asm, by k_asm, by k_asm, by rfl, by ktr_room, by ktr_units⟩)
    (case n1 => k_asm)
    (case S1 => assumption)
    (case d1 => ktr_room)
    (case u1 => ktr_units)
    (case q11 => decide)
    (case q21 => decide)
    (case q31 => decide)
    (case q41 => decide)
    (case q51 => decide)
    (case q61 => decide)
    (case q71 => decide)
    (case q81 => decide)
    (case q91 => decide)
    (case q01 => decide)
    intro c1 t1 _ _ _ _ _ _ _ _ h1 tk1 hR1 F1 N1
    k_steps
    repeat (any_goals (unfold Stop; (first | (k_dflt (refine' single_make0 (by exact ⟨by k_asm, by k_asm, by k_asm, by k_asm, by rfl, by ktr_room, by ktr_units⟩) (by k_asm) (by ktr_room) (by ktr_units) ?t1 ?t2 ?t3 ?t4 ?t5 ?_; all_goals (try decide)); k_whole; intro zT9 zx9 zdx9 zb19 zd19 zb29 zd29 zh9 ztk9 zl1 zl2 zl3 zl4 zl5 zl6 zF9 zN9; (have zhS9 := six_of zl1 zl2 zl3 zl4 zl5 zl6); (have zN8 := six_turn zN9); clear zN9)); k_steps))
    unfold Stop
    refine' color1_call0 ?c2 ?n2 ?d2 ?u2 ?S2 ?q12 ?q22 ?q32 ?q42 ?q52 ?q62 ?q72 ?q82 ?q92 ?q02 ?_
    (case c2 => exact ⟨by k_asm, by k_asm, by k_asm, by k_asm, by rfl, by ktr_room, by ktr_units⟩)
    (case n2 => k_asm)
    (case S2 => assumption)
    (case d2 => ktr_room)
    (case u2 => ktr_units)
    (case q12 => decide)
    (case q22 => decide)
    (case q32 => decide)
    (case q42 => decide)
    (case q52 => decide)
    (case q62 => decide)
    (case q72 => decide)
    (case q82 => decide)
    (case q92 => decide)
    (case q02 => decide)
    intro c2 t2 _ _ _ _ _ _ _ _ h2 tk2 hR2 F2 N2
    k_steps
    repeat (any_goals (unfold Stop; (first | (k_dflt (refine' single_make0 (by exact ⟨by k_asm, by k_asm, by k_asm, by k_asm, by rfl, by ktr_room, by ktr_units⟩) (by k_asm) (by ktr_room) (by ktr_units) ?t1 ?t2 ?t3 ?t4 ?t5 ?_; all_goals (try decide)); k_whole; intro zT9 zx9 zdx9 zb19 zd19 zb29 zd29 zh9 ztk9 zl1 zl2 zl3 zl4 zl5 zl6 zF9 zN9; (have zhS9 := six_of zl1 zl2 zl3 zl4 zl5 zl6); (have zN8 := six_turn zN9); clear zN9)); k_steps))
    unfold Stop
    refine' color1_call0 ?c3 ?n3 ?d3 ?u3 ?S3 ?q13 ?q23 ?q33 ?q43 ?q53 ?q63 ?q73 ?q83 ?q93 ?q03 ?_
    (case c3 => exact ⟨by k_asm, by k_asm, by k_asm, by k_asm, by rfl, by ktr_room, by ktr_units⟩)
    (case n3 => k_asm)
    (case S3 => assumption)
    (case d3 => ktr_room)
    (case u3 => ktr_units)
    (case q13 => decide)
    (case q23 => decide)
    (case q33 => decide)
    (case q43 => decide)
    (case q53 => decide)
    (case q63 => decide)
    (case q73 => decide)
    (case q83 => decide)
    (case q93 => decide)
    (case q03 => decide)
    intro c3 t3 _ _ _ _ _ _ _ _ h3 tk3 hR3 F3 N3
    k_steps
    repeat (any_goals (unfold Stop; (first | (k_dflt (refine' single_make0 (by exact ⟨by k_asm, by k_asm, by k_asm, by k_asm, by rfl, by ktr_room, by ktr_units⟩) (by k_asm) (by ktr_room) (by ktr_units) ?t1 ?t2 ?t3 ?t4 ?t5 ?_; all_goals (try decide)); k_whole; intro zT9 zx9 zdx9 zb19 zd19 zb29 zd29 zh9 ztk9 zl1 zl2 zl3 zl4 zl5 zl6 zF9 zN9; (have zhS9 := six_of zl1 zl2 zl3 zl4 zl5 zl6); (have zN8 := six_turn zN9); clear zN9)); k_steps))
    unfold Stop
    refine' color1_call0 ?c4 ?n4 ?d4 ?u4 ?S4 ?q14 ?q24 ?q34 ?q44 ?q54 ?q64 ?q74 ?q84 ?q94 ?q04 ?_
    (case c4 => exact ⟨by k_asm, by k_asm, by k_asm, by k_asm, by rfl, by ktr_room, by ktr_units⟩)
    (case n4 => k_asm)
    (case S4 => assumption)
    (case d4 => ktr_room)
    (case u4 => ktr_units)
    (case q14 => decide)
    (case q24 => decide)
    (case q34 => decide)
    (case q44 => decide)
    (case q54 => decide)
    (case q64 => decide)
    (case q74 => decide)
    (case q84 => decide)
    (case q94 => decide)
    (case q04 => decide)
    intro c4 t4 _ _ _ _ _ _ _ _ h4 tk4 hR4 F4 N4
    k_steps
    repeat (any_goals (unfold Stop; (first | (k_dflt (refine' single_make0 (by exact ⟨by k_asm, by k_asm, by k_asm, by k_asm, by rfl, by ktr_room, by ktr_units⟩) (by k_asm) (by ktr_room) (by ktr_units) ?t1 ?t2 ?t3 ?t4 ?t5 ?_; all_goals (try decide)); k_whole; intro zT9 zx9 zdx9 zb19 zd19 zb29 zd29 zh9 ztk9 zl1 zl2 zl3 zl4 zl5 zl6 zF9 zN9; (have zhS9 := six_of zl1 zl2 zl3 zl4 zl5 zl6); (have zN8 := six_turn zN9); clear zN9)); k_steps))
    unfold Stop
    refine' color1_call0 ?c5 ?n5 ?d5 ?u5 ?S5 ?q15 ?q25 ?q35 ?q45 ?q55 ?q65 ?q75 ?q85 ?q95 ?q05 ?_
    (case c5 => exact ⟨by k_asm, by k_asm, by k_asm, by k_asm, by rfl, by ktr_room, by ktr_units⟩)
    (case n5 => k_asm)
    (case S5 => assumption)
    (case d5 => ktr_room)
    (case u5 => ktr_units)
    (case q15 => decide)
    (case q25 => decide)
    (case q35 => decide)
    (case q45 => decide)
    (case q55 => decide)
    (case q65 => decide)
    (case q75 => decide)
    (case q85 => decide)
    (case q95 => decide)
    (case q05 => decide)
    intro c5 t5 _ _ _ _ _ _ _ _ h5 tk5 hR5 F5 N5
    k_steps
    repeat (any_goals (unfold Stop; (first | (k_dflt (refine' single_make0 (by exact ⟨by k_asm, by k_asm, by k_asm, by k_asm, by rfl, by ktr_room, by ktr_units⟩) (by k_asm) (by ktr_room) (by ktr_units) ?t1 ?t2 ?t3 ?t4 ?t5 ?_; all_goals (try decide)); k_whole; intro zT9 zx9 zdx9 zb19 zd19 zb29 zd29 zh9 ztk9 zl1 zl2 zl3 zl4 zl5 zl6 zF9 zN9; (have zhS9 := six_of zl1 zl2 zl3 zl4 zl5 zl6); (have zN8 := six_turn zN9); clear zN9)); k_steps))
    unfold Stop
    refine' color1_call0 ?c6 ?n6 ?d6 ?u6 ?S6 ?q16 ?q26 ?q36 ?q46 ?q56 ?q66 ?q76 ?q86 ?q96 ?q06 ?_
    (case c6 => exact ⟨by k_asm, by k_asm, by k_asm, by k_asm, by rfl, by ktr_room, by ktr_units⟩)
    (case n6 => k_asm)
    (case S6 => assumption)
    (case d6 => ktr_room)
    (case u6 => ktr_units)
    (case q16 => decide)
    (case q26 => decide)
    (case q36 => decide)
    (case q46 => decide)
    (case q56 => decide)
    (case q66 => decide)
    (case q76 => decide)
    (case q86 => decide)
    (case q96 => decide)
    (case q06 => decide)
    intro c6 t6 _ _ _ _ _ _ _ _ h6 tk6 hR6 F6 N6
    obtain ⟨e1, e2, e3, e4, e5, e6⟩ := fixed_law hR1 hR2 hR3 hR4 hR5 hR6
    subst e1 e2 e3 e4 e5 e6
    clear hR1 hR2 hR3 hR4 hR5 hR6
    dsimp only [cs]
    k_steps
    repeat (any_goals (unfold Stop; (first | (k_dflt (refine' single_make0 (by exact ⟨by k_asm, by k_asm, by k_asm, by k_asm, by rfl, by ktr_room, by ktr_units⟩) (by k_asm) (by ktr_room) (by ktr_units) ?t1 ?t2 ?t3 ?t4 ?t5 ?_; all_goals (try decide)); k_whole; intro zT9 zx9 zdx9 zb19 zd19 zb29 zd29 zh9 ztk9 zl1 zl2 zl3 zl4 zl5 zl6 zF9 zN9; (have zhS9 := six_of zl1 zl2 zl3 zl4 zl5 zl6); (have zN8 := six_turn zN9); clear zN9)); k_steps))
    (rename News _ _ _ _ => kN9)
    (rename Fr _ _ _ _ => kF9)
    refine ret _ _ kF9 (fun p hp => kN9 p ?e1)
    (case e1 => repeat (first | exact hp | apply List.Mem.tail)))
end
section
variable {prog : Program} {w : World} {A : Around} {E : Value → Shared → Prop} {h : Heap} {g : Array GenState} {d : Drawn} {t : Nat} {os : OsState}
variable {nm q : Str} {C N : Addr} {bs bm bmB : List Value} {hdct : Bool} {sn : List Str} {sub : List Value} {ab : Bool} {col : Option Bool} {dd : Option Addr} {k0 k1 k2 k3 k5 : Option Value} {B newId initId : String}
/-- a new exception object, ahead of its `__init__` -/
abbrev excNew (h : Heap) (C : Addr) (rest : List Value) : Heap := (h.push { cls := .type "tuple", data := .seq rest.toArray }).push { cls := .ref C, data := .fields #[.ref h.objs.size, .none, .none, .none, .bool false, .none] }
theorem excNew_keeps {rest : List Value} : ∀ b o, h.get? b = some o → (excNew h C rest).get? b = some o := fun _ _ e => Heap.get?_push_of_some _ (Heap.get?_push_of_some _ e)
/-- what a class's line of bases must hold -/
structure LineOf (bm : List Value) (B : String) : Prop where
  hasB : bm.contains (.type B) = true
  hasBase : bm.contains (.type "BaseException") = true
  noAttr : bm.contains (.type "AttributeError") = false
  noName : bm.contains (.type "NameError") = false
theorem exc_check_new (F : ExcBaseFacts B newId initId bmB) (T : LineOf bm B) {M : Model} {rest : List Value} {Q : Unit → Shared → Prop} (hC : h.get? C = some (excClassObj nm q C N bs bm hdct sn sub ab col dd k0 k1 k2 k3 k5 newId))
    (hq : Q () ⟨h, g, d, t, os⟩) : wpAny M A (checkBuiltinCall newId ⟨.ref C :: rest, []⟩) Q E ⟨h, g, d, t, os⟩ := by
  have hcont : (Value.ref C :: bm).contains (.type B) = true := by rw [List.contains_cons, T.hasB, Bool.or_true]
  have hstar := F.noStar
  simp only [checkBuiltinCall, F.newKind, F.newSplit, F.newRow]
  repeat (first | refine wpAny_loadPart_at hC ?_ | (refine wpAny_isSubtype_exc hC ?_; rw [hcont]) | refine wpAny_staticBase_exc hC ?_ | refine wpAny_madeBy_exc hC ?_ | simp only [bne_self_eq_false, Bool.false_eq_true, if_false] | wp_step)
  exact hq
theorem exc_run_new (F : ExcBaseFacts B newId initId bmB) (T : LineOf bm B) {R : Result → Shared → Prop} {rest : List Value} (hC : h.get? C = some (excClassObj nm q C N bs bm hdct sn sub ab col dd k0 k1 k2 k3 k5 newId))
    (hq : R (.ok (.ret (.ref (h.objs.size + 1)))) ⟨excNew h C rest, g, d, t, os⟩) (hrest : rest.length ≤ sizeLine) :
    codeAny (model prog w) A (.builtin newId ⟨.ref C :: rest, []⟩) R ⟨h, g, d, t, os⟩ := by
  have hends := F.ends
  have hcB : (Value.ref C :: bm).contains (.type B) = true := by rw [List.contains_cons, T.hasB, Bool.or_true]
  have hcA : (Value.ref C :: bm).contains (.type "AttributeError") = false := by rw [List.contains_cons, T.noAttr]; rfl
  have hcN : (Value.ref C :: bm).contains (.type "NameError") = false := by rw [List.contains_cons, T.noName]; rfl
  refine codeAny_builtinAt F.entry ?_
  unfold Builtin.«BaseException.__new__»
  refine PySem.wpAt_bind ?_
  show PySem.wpAt _ _ _ (stack >>= _) _ _ _
  refine PySem.wpAt_bind (PySem.wpAt_stack fun p below => PySem.wpAt_of_wpAny ?_)
  wp_walk
  refine PySem.wpAt_of_wpAny ?_
  rw [F.owner]
  repeat (first | with_reducible refine wpAny_madeHere_exc F.canon hC ?_ | with_reducible refine wpAny_loadPart_at hC ?_ | (with_reducible refine wpAny_isSubtype_exc hC ?_; first | rw [hcB] | rw [hcA] | rw [hcN]) | wp_step)
  show R _ _
  rw [Heap.size_push]
  exact hq
theorem exc_type_call (F : ExcBaseFacts B newId initId bmB) (T : LineOf bm B) {rest : List Value} {Q : Fin → Shared → Prop} {f : Addr} {K : Frag}
    (X : K.In h) (hf : typeIn K (.ref f) = some (.type "function"))
    (hC : h.get? C = some (excClassObj nm q C N bs bm hdct sn sub ab col dd k0 k1 k2 k3 k5 newId)) (hi : Looks (model prog w) h (typeLookup (.ref C) "__init__") (some (.ref f)))
    (hq : wpAny (model prog w) A (call (.ref f) (.ref (h.objs.size + 1) :: rest)) (fun v s' => v = .none ∧ Q (.done (.ret (.ref (h.objs.size + 1)))) s') E ⟨excNew h C rest, g, d, t, os⟩) (hrest : rest.length ≤ sizeLine) :
    wpAny (model prog w) A (Builtin.«type.__call__» ⟨.ref C :: rest, []⟩) Q E ⟨h, g, d, t, os⟩ := by
  repeat (first | with_reducible refine wpAny_loadPart_at hC ?_ | with_reducible refine wpAny_madeBy_exc hC ?_ | wp_step)
  refine codeAny_call_builtin_code (Code.quiet_builtin _ F.quiet) (exc_check_new F T hC ?_)
  refine exc_run_new F T hC ?_ hrest
  show wpAny _ _ _ _ _ _
  have hC₁ := excNew_keeps (rest := rest) (C := C) _ _ hC
  have hget : (excNew h C rest).get? (h.objs.size + 1) = some { cls := .ref C, data := .fields #[.ref h.objs.size, .none, .none, .none, .bool false, .none] } := by unfold excNew; heap_get
  have hcC : (Value.ref C :: bm).contains (.ref C) = true := by simp
  unfold isInstance
  repeat (first | with_reducible refine wpAny_loadPart_at hget ?_ | (with_reducible refine wpAny_isSubtype_exc hC₁ ?_; rw [hcC]) | wp_step)
  show wpAny _ _ (typeLookup (.ref C) _) _ _ _
  refine hi.keeps (excNew_keeps (rest := rest) (C := C)) _ _ _ _ (fun _ _ e => e) ?_
  have X₁ : K.In (excNew h C rest) := X.keeps (excNew_keeps (rest := rest) (C := C))
  refine wpAny_holding (wpAny_bind (bind_fn X₁ _ hf _ _ _ _ (fun _ _ e => e) ?_))
  refine wpAny_bind (wpAny_mono hq (fun v s' hv => ?_) fun _ _ x => x)
  obtain ⟨rfl, hv⟩ := hv
  refine wpAny_pure ?_
  show wpAny _ _ (ret _) _ _ _
  exact wpAny_pure hv
theorem exc_class_call (F : ExcBaseFacts B newId initId bmB) (T : LineOf bm B) {rest : List Value} {Q : Value → Shared → Prop} {f : Addr} {K : Frag}
    (X : K.In h) (hf : typeIn K (.ref f) = some (.type "function"))
    (hC : h.get? C = some (excClassObj nm q C N bs bm hdct sn sub ab col dd k0 k1 k2 k3 k5 newId)) (hi : Looks (model prog w) h (typeLookup (.ref C) "__init__") (some (.ref f)))
    (hq : wpAny (model prog w) (A.under (.builtin "type.__call__" ⟨.ref C :: rest, []⟩)) (call (.ref f) (.ref (h.objs.size + 1) :: rest)) (fun v s' => v = .none ∧ Q (.ref (h.objs.size + 1)) s') E ⟨excNew h C rest, g, d, t, os⟩) (hrest : rest.length ≤ sizeLine) :
    wpAny (model prog w) A (call (.ref C) rest) Q E ⟨h, g, d, t, os⟩ := by
  have f1 := tc_lookup
  have f2 := tc_bind (.ref C)
  have hT : (⟨h, g, d, t, os⟩ : Shared).TypeIs (.ref C) "type" := ⟨_, hC, rfl⟩
  refine wpAny_call (codeAny_of_tree ?_)
  show wpAny _ _ (callAny (.ref C) _) _ _ _
  repeat (any_goals (first | assumption | with_reducible refine wpAny_loadPart_at hC ?_ | wp_step))
  refine ⟨rfl, ?_⟩
  refine codeAny_call_builtin_at (Code.quiet_builtin _ (by decide +kernel)) entry_typeCall (wpAny_check_type_call_sub hC (exc_type_call (hrest := hrest) F T X hf hC hi ?_))
  exact wpAny_mono hq (fun _ _ x => x) (fun _ _ x => x)
end
/-- an exception of an own class: its arguments at t, its dict -/
abbrev exO (C t : Addr) (od : Option Addr) : Obj := { cls := .ref C, dict := od, data := .fields #[.ref t, .none, .none, .none, .bool false, .none] }
section
variable {prog : Program} {w : World} {A : Around} {E : Value → Shared → Prop} {h : Heap} {g : Array GenState} {d : Drawn} {t : Nat} {os : OsState}
variable {nm q : Str} {C N x : Addr} {bs bm bmB : List Value} {sn : List Str} {sub : List Value} {hdct ab : Bool} {col : Option Bool} {dd : Option Addr} {k0 k1 k2 k3 k5 : Option Value} {B newId initId : String}
  {mA : Str → Option Value} {name : Str} {v : Value}
theorem exc_check_init (F : ExcBaseFacts B newId initId bmB) (T : LineOf bm B) {M : Model} {e : Addr} {oe : Obj} {rest : List Value} {Q : Unit → Shared → Prop}
    (hC : h.get? C = some (excClassObj nm q C N bs bm hdct sn sub ab col dd k0 k1 k2 k3 k5 newId)) (he : h.get? e = some oe) (hcls : oe.cls = .ref C) (hq : Q () ⟨h, g, d, t, os⟩) :
    wpAny M A (checkBuiltinCall initId ⟨.ref e :: rest, []⟩) Q E ⟨h, g, d, t, os⟩ := by
  have hcB : (Value.ref C :: bm).contains (.type B) = true := by rw [List.contains_cons, T.hasB, Bool.or_true]
  have hshort := F.noStar
  simp only [checkBuiltinCall, F.initKind, F.initSplit, F.initRow]
  repeat (first | (with_reducible refine wpAny_loadPart_at he ?_; rw [hcls]) | with_reducible refine wpAny_loadPart_at hC ?_ | (with_reducible refine wpAny_isSubtype_exc hC ?_; rw [hcB]) | wp_step)
  refine wpAny_onRaise ?_
  rw [show ∀ (a b : String) (n : Nat), Bind.check ⟨.positional, "*", B, .self, [⟨"args", .varPos, false⟩]⟩ a b n (List.map (fun x => x.fst) ({ pos := Value.ref e :: rest } : Args).kw) = pure () from
    fun a b n => check_star_args _ _ _ _ _ _]
  exact wpAny_pure hq
theorem exc_init_call (F : ExcBaseFacts B newId initId bmB) (T : LineOf bm B) {rest : List Value} {t0 : Addr} {od : Option Addr} {Q : Value → Shared → Prop}
    (hC : h.get? C = some (excClassObj nm q C N bs bm hdct sn sub ab col dd k0 k1 k2 k3 k5 newId)) (he : h.get? x = some (exO C t0 od)) (hrest : rest.length ≤ sizeLine)
    (hq : ∀ h', (∀ b o, b ≠ x → h.get? b = some o → h'.get? b = some o) → h'.get? x = some (exO C h.objs.size od) → Q .none ⟨h', g, d, t, os⟩) :
    wpAny (model prog w) A (call (.builtin initId) (.ref x :: rest)) Q E ⟨h, g, d, t, os⟩ := by
  refine wpAny_call (codeAny_call_builtin F.init.plain F.initEntry (exc_check_init F T hC he rfl ?_))
  wp_walk
  refine hq _ (fun b o hb e => ?_) ?_
  · rw [Heap.get?_update_other _ _ (Ne.symm hb)]
    exact Heap.get?_push_of_some _ e
  · rw [Heap.get?_update_self _ (Heap.get?_push_of_some _ he) rfl]
    rfl
end
section
open PySem.Builtin PySem.Builtin.ObjectAttr
variable {prog : Program} {w : World} {A : Around} {E : Value → Shared → Prop} {h : Heap} {g : Array GenState} {d : Drawn} {t : Nat} {os : OsState}
variable {nm q : Str} {C N x : Addr} {bs bm bmB : List Value} {sn : List Str} {sub : List Value} {ab : Bool} {col : Option Bool} {dd : Option Addr} {k0 k1 k2 k3 k5 : Option Value} {B newId initId : String}
  {mA : Str → Option Value} {name : Str} {v : Value}
theorem exc_check_sa {M : Model} {o : Obj} {nameV : Value} {Q : Unit → Shared → Prop} (hO : bm.contains (.type "object") = true)
    (hC : h.get? C = some (excClassObj nm q C N bs bm true sn sub ab col dd k0 k1 k2 k3 k5 newId)) (hx : h.get? x = some o) (hc : o.cls = .ref C) (hq : Q () ⟨h, g, d, t, os⟩) :
    wpAny M A (checkBuiltinCall "object.__setattr__" ⟨[.ref x, nameV, v], []⟩) Q E ⟨h, g, d, t, os⟩ := by
  have SF := PySem.F.store_Exception
  have hcB : (Value.ref C :: bm).contains (.type "object") = true := by rw [List.contains_cons, hO, Bool.or_true]
  have ha := SF.args (.ref x) nameV v
  simp only [checkBuiltinCall, SF.kind, SF.split]
  refine wpAny_bind ?_
  · unfold isInstance
    repeat (first | (with_reducible refine wpAny_loadPart_at hx ?_; rw [hc]) | (with_reducible refine wpAny_isSubtype_exc hC ?_; rw [hcB]) | wp_step)
    exact hq
theorem exc_store_entry {tk : Tok} {Q : Fin → Shared → Prop} {ns : List Str} (hpass : refuseLoop (.ref x) "__setattr__" bm = pure ())
    (hC : h.get? C = some (excClassObj nm q C N bs bm true sn sub ab col dd k0 k1 k2 k3 k5 newId)) (hlk : Looks (model prog w) h (typeLookup (.ref C) name) none) (I : h.Inst x C mA)
    (hq : ∀ h' tk', h'.Inst x C (fun y => if y = name then some v else mA y) →
      (∀ b o, b ≠ x → (∀ o₀ dx, h.get? x = some o₀ → o₀.dict = some dx → b ≠ dx) → h.get? b = some o → h'.get? b = some o) →
      (∀ o₀, h.get? x = some o₀ → ∃ o₁, h'.get? x = some o₁ ∧ o₁.cls = o₀.cls ∧ o₁.data = o₀.data ∧ o₁.slots = o₀.slots ∧ ∀ dx, o₀.dict = some dx → o₁.dict = some dx) →
      (∀ o₀ o₁ dx, h.get? x = some o₀ → h'.get? x = some o₁ → o₁.dict = some dx → o₀.dict = some dx ∨ h.objs.size ≤ dx) → Q (.done (.ret .none)) ⟨h', g, d, tk', os⟩) (hw : Within mA ns) (hsz : ns.length ≤ sizeLine) :
    wpAny (model prog w) A (Builtin.«object.__setattr__» ⟨[.ref x, .str name tk, v], []⟩) Q E ⟨h, g, d, t, os⟩ := by
  obtain ⟨o, hx, hc, hnc, hd⟩ := I
  have hlk' : ∀ {Q : Option Value → Shared → Prop} {t : Nat}, Q none ⟨h, g, d, t, os⟩ → wpAny (model prog w) A (typeLookup (.ref C) name) Q E ⟨h, g, d, t, os⟩ := fun hq => hlk.here hq
  unfold Builtin.«object.__setattr__»
  repeat (first | rw [refuse_eq] | (rw [refuseLoop_ref, hpass]) | (with_reducible refine wpAny_loadPart_at hx ?_; rw [hc]) | with_reducible refine wpAny_mroOf_exc hC ?_ | (with_reducible refine hlk' ?_) | wp_step)
  rcases hd with ⟨hdn, hmA⟩ | ⟨dx, hdx, hne, hns⟩
  ·
    rw [hdn, if_neg (by simp [typeHasDict])]
    split
    · rename_i hcd
      cases hcd
    split
    · rename_i c hcd
      exact absurd hcd (hnc c)
    · have hx₁ : (h.push { cls := .type "dict", data := .dict #[] }).get? x = some o := Heap.get?_push_of_some _ hx
      have hxs : x ≠ h.objs.size := Nat.ne_of_lt (Heap.lt_size hx)
      refine wpAny_bind (wpAny_alloc' ?_)
      refine wpAny_bind (wpAny_update' hx₁ ?_)
      refine wpAny_pure ?_
      have hgd : ((h.push { cls := .type "dict", data := .dict #[] }).update x fun o => { cls := o.cls, dict := some h.objs.size, data := o.data, slots := o.slots }).get? h.objs.size
          = some { cls := .type "dict", data := .dict #[] } :=
        (Heap.get?_update_ne _ _ _ _ hxs.symm).trans (Heap.get?_push_at rfl rfl)
      have hnd : ((h.push { cls := .type "dict", data := .dict #[] }).update x fun o => { cls := o.cls, dict := some h.objs.size, data := o.data, slots := o.slots }).Ns h.objs.size (fun _ => none) :=
        ⟨_, #[], _, hgd, rfl, fun e he => absurd he (by simp), fun _ => rfl⟩
      show wpAny _ _ (storeInDict h.objs.size (.str name tk) name v) _ _ _
      unfold storeInDict newKeyGuard
      refine wpAny_bind (wpAny_pure (wpAny_bind (wpAny_nsSet1 (Heap.Ns1.of_empty hnd) fun h' hn' hs => ?_)))
      obtain ⟨oD, esD, epD, hoD, hdD, hcD⟩ := hn'.count (Within.cons name v Within.nil)
      refine wpAny_bind (wpAny_lookBehind hoD (by rw [hdD]; exact pastItsLine_dict (Nat.le_trans hcD (by rw [List.length_cons, List.length_nil, sizeLine_eq]; omega))) ?_)
      wp_walk
      have hx' : h'.get? x = some { cls := o.cls, dict := some h.objs.size, data := o.data, slots := o.slots } := ?_
      refine hq h' _ ⟨{ cls := o.cls, dict := some h.objs.size, data := o.data, slots := o.slots }, hx', hc, hnc, .inr ⟨h.objs.size, rfl, hxs.symm, ?_⟩⟩ (fun b ob hbx _ hb => ?_)
        (fun o₀ h₀ => by obtain rfl : o = o₀ := Option.some.inj (hx.symm.trans h₀); exact ⟨_, hx', rfl, rfl, rfl, fun dx e => by rw [hdn] at e; cases e⟩)
        (fun o₀ o₁ dx _ h1 e => .inr (by obtain rfl := Option.some.inj (hx'.symm.trans h1); exact Nat.le_of_eq (Option.some.inj e)))
      · obtain ⟨o', es, ep, e1, e2, e3, eu, e4⟩ := hn'
        exact ⟨o', es, ep, e1, e2, e3, eu, fun y => by rw [e4 y]; by_cases hy : y = name <;> simp [hy, hmA]⟩
      · exact (hs.2 b (Nat.ne_of_lt (Heap.lt_size hb))).trans ((Heap.get?_update_ne _ _ _ _ hbx).trans (Heap.get?_push_of_some _ hb))
      · refine (hs.2 x hxs).trans (Heap.get?_update_self _ hx₁ ?_)
        have hfr := (Heap.get?_some_iff.mp hx).2
        obtain ⟨oc, od, odt, osl⟩ := o
        cases odt <;> first | rfl | exact hfr
  ·
    rw [hdx]
    refine wpAny_pure ?_
    show wpAny _ _ (storeInDict dx (.str name tk) name v) _ _ _
    unfold storeInDict newKeyGuard
    refine wpAny_bind (wpAny_pure (wpAny_bind (wpAny_nsSet1 hns fun h' hn' hs => ?_)))
    obtain ⟨oD, esD, epD, hoD, hdD, hcD⟩ := hn'.count (Within.cons name v hw)
    refine wpAny_bind (wpAny_lookBehind hoD (by rw [hdD]; exact pastItsLine_dict (Nat.le_trans hcD (by rw [List.length_cons]; omega))) ?_)
    wp_walk
    refine hq h' _ ⟨o, (hs.2 x hne.symm).trans hx, hc, hnc, .inr ⟨dx, hdx, hne, hn'⟩⟩ (fun b ob _ hbd hb => ?_)
      (fun o₀ h₀ => ⟨o₀, (hs.2 x hne.symm).trans h₀, rfl, rfl, rfl, fun _ e => e⟩)
      (fun o₀ o₁ dx' h0 h1 e => .inl (by rw [hs.2 x hne.symm, h0] at h1; rw [Option.some.inj h1]; exact e))
    exact (hs.2 b (hbd o dx hx hdx)).trans hb
theorem exc_store_attr {Q : Unit → Shared → Prop} {ns : List Str} (hpass : refuseLoop (.ref x) "__setattr__" bm = pure ()) (hO : bm.contains (.type "object") = true)
    (hC : h.get? C = some (excClassObj nm q C N bs bm true sn sub ab col dd k0 k1 k2 k3 k5 newId)) (hsa : Looks (model prog w) h (typeLookup (.ref C) "__setattr__") (some (.builtin "object.__setattr__")))
    (hlk : Looks (model prog w) h (typeLookup (.ref C) name) none) (I : h.Inst x C mA)
    (hq : ∀ h' tk', h'.Inst x C (fun y => if y = name then some v else mA y) →
      (∀ b o, b ≠ x → (∀ o₀ dx, h.get? x = some o₀ → o₀.dict = some dx → b ≠ dx) → h.get? b = some o → h'.get? b = some o) →
      (∀ o₀, h.get? x = some o₀ → ∃ o₁, h'.get? x = some o₁ ∧ o₁.cls = o₀.cls ∧ o₁.data = o₀.data ∧ o₁.slots = o₀.slots ∧ ∀ dx, o₀.dict = some dx → o₁.dict = some dx) →
      (∀ o₀ o₁ dx, h.get? x = some o₀ → h'.get? x = some o₁ → o₁.dict = some dx → o₀.dict = some dx ∨ h.objs.size ≤ dx) → Q () ⟨h', g, d, tk', os⟩) (hw : Within mA ns) (hsz : ns.length ≤ sizeLine) :
    wpAny (model prog w) A (setAttr (.ref x) name v) Q E ⟨h, g, d, t, os⟩ := by
  have SF := PySem.F.store_Exception
  obtain ⟨o, hx, hc, _⟩ := id I
  have f3 := SF.slot.bind (.ref x)
  have hsa' : ∀ {Q : Option Value → Shared → Prop} {t : Nat}, Q (some (.builtin "object.__setattr__")) ⟨h, g, d, t, os⟩ → wpAny (model prog w) A (typeLookup (.ref C) "__setattr__") Q E ⟨h, g, d, t, os⟩ := fun hq => hsa.here hq
  unfold setAttr callSpecial? specialOf
  repeat (any_goals (first | assumption | (with_reducible refine wpAny_loadPart_at hx ?_; rw [hc]) | (with_reducible refine hsa' ?_) | wp_step))
  refine codeAny_call_builtin SF.slot.plain SF.entry (exc_check_sa hO hC hx hc (exc_store_entry hpass hC hlk I (fun h' tk' I' hk hsame hnew => ?_) hw hsz))
  repeat (any_goals (first | assumption | wp_step))
  exact hq h' tk' I' hk hsame hnew
end
/-- an exception of SettingError with its dict -/
structure ExcD (x dx : Addr) (o od : Obj) (mA : Str → Option Value) (rest : List (Addr × Obj)) : Prop where
  cls : o.cls = .ref 59
  dict : o.dict = some dx
  data : ∃ t, o.data = .fields #[.ref t, .none, .none, .none, .bool false, .none]
  ne : dx ≠ x
  ns : ∀ h : Heap, h.get? dx = some od → h.Ns1 dx mA
  apart : ∀ p ∈ rest, p.1 ≠ x ∧ p.1 ≠ dx
section
variable {w : World} {A : Around} {E : Value → Shared → Prop} {h₀ : Heap} {L x dx t : Addr} {m mA : Str → Option Value} {s : Shared} {name : Str} {v : Value} {rest : List (Addr × Obj)} {o od : Obj}
theorem pass59 (x : Addr) : PySem.refuseLoop (.ref x) "__setattr__" [Value.ref 38, .type "Exception", .type "BaseException", .type "object"] = pure () := by
  rw [PySem.refuseLoop_ref]
  exact PySem.F.store_Exception.passes _
theorem at59 {h : Heap} (X : (Mine.hd.heap_39 w.params).In h) : ∃ nm q N bs sn sub ab col dd k0 k1 k2 k3 k5, h.get? 59 = some (excClassObj nm q 59 N bs [Value.ref 38, .type "Exception", .type "BaseException", .type "object"] true sn sub ab col dd k0 k1 k2 k3 k5 "Exception.__new__") :=
  ⟨_, _, _, _, _, _, _, _, _, _, _, _, _, _, X 59 _ (by with_unfolding_all rfl)⟩
theorem line59 : LineOf [Value.ref 38, .type "Exception", .type "BaseException", .type "object"] "Exception" := ⟨by decide +kernel, by decide +kernel, by decide +kernel, by decide +kernel⟩
theorem exc_init_K {msg : Value} {Q : Value → Shared → Prop} (F : Fr h₀ L s.heap m) (X : (Mine.hd.heap_39 w.params).In h₀) (N : News h₀ L s.heap ((x, exO 59 t none) :: rest)) (hr : ∀ p ∈ rest, p.1 ≠ x)
    (h : ∀ z h', Fr h₀ L h' m → News h₀ L h' ((x, exO 59 z none) :: rest) → Q .none { s with heap := h' }) :
    wpAny (model PySem.Challenge.rw_pc0363_01.row.prog w) A (call (.builtin "Exception.__init__") [.ref x, msg]) Q E s := by
  have hx := N _ (.head _)
  obtain ⟨nm, q, NN, bs, sn, sub, ab, col, dd, k0, k1, k2, k3, k5, hC⟩ := at59 (X.keeps F.keep)
  obtain ⟨hp, gs, d, tk, os⟩ := s
  refine exc_init_call PySem.F.excBase_Exception line59 hC hx.1 (by size_fits) (fun h' hk hx' => ?_)
  have F' : Fr h₀ L h' m := ⟨F.ns.extBut hk (Ne.symm hx.2.1), fun b ob e => hk b ob (fun q => by rw [q, hx.2.2] at e; cases e) (F.keep b ob e), F.above⟩
  refine h hp.objs.size h' F' (fun p hp => ?_)
  rcases List.mem_cons.mp hp with rfl | hp
  · exact ⟨hx', hx.2⟩
  · exact ⟨hk _ _ (hr p hp) (N p (.tail _ hp)).1, (N p (.tail _ hp)).2⟩
theorem exc_set1 {Q : Unit → Shared → Prop} (F : Fr h₀ L s.heap m) (X : (Mine.hd.heap_39 w.params).In h₀) (N : News h₀ L s.heap ((x, exO 59 t none) :: rest)) (hr : ∀ p ∈ rest, p.1 ≠ x)
    (hlk : findIn (Mine.hd.heap_39 w.params) (.ref 59) name = some none)
    (h : ∀ h' tk' dx o od, Fr h₀ L h' m → News h₀ L h' ((x, o) :: (dx, od) :: rest) → ExcD x dx o od (fun y => if y = name then some v else none) rest → Q () { s with heap := h', toks := tk' }) :
    wpAny (model PySem.Challenge.rw_pc0363_01.row.prog w) A (setAttr (.ref x) name v) Q E s := by
  have hx := N _ (.head _)
  have X9 := X.keeps F.keep
  obtain ⟨nm, q, NN, bs, sn, sub, ab, col, dd, k0, k1, k2, k3, k5, hC⟩ := at59 X9
  obtain ⟨hp, gs, d, tk, os⟩ := s
  refine exc_store_attr (mA := fun _ => none) (ns := []) (pass59 x) (by decide +kernel) hC (looks_findIn X9 (by with_unfolding_all rfl)) (looks_findIn X9 hlk) ⟨_, hx.1, rfl, (fun c e => by cases e), .inl ⟨rfl, fun _ => rfl⟩⟩ (fun h' tk' I' hk hsame hnew => ?_) (by within_ways) (by size_fits)
  obtain ⟨o1, ho1, hc1, hd1, hs1, _⟩ := hsame _ hx.1
  obtain ⟨o2, ho2, _, _, hI⟩ := I'
  obtain rfl := Option.some.inj (ho1.symm.trans ho2)
  rcases hI with ⟨_, hI⟩ | ⟨dx, hdx, hne, hns⟩
  · have := hI name
    simp at this
  rcases hnew _ _ _ hx.1 ho1 hdx with e | hnew
  · cases e
  obtain ⟨od, es, ep, h1, h2, h3⟩ := hns
  have hk' : ∀ b o, b ≠ x → hp.get? b = some o → h'.get? b = some o := fun b o hb e => hk b o hb (fun o₀ dx' e0 e1 => by
    obtain rfl := Option.some.inj (hx.1.symm.trans e0)
    cases e1) e
  have hdL : dx ≠ L := fun e => Nat.lt_irrefl _ (Nat.lt_of_lt_of_le F.ns.lt (e ▸ hnew))
  refine h h' tk' dx o1 od ⟨F.ns.extBut hk' (Ne.symm hx.2.1), fun b ob e => hk' b ob (fun q => by rw [q, hx.2.2] at e; cases e) (F.keep b ob e), F.above⟩ (fun p hp' => ?_) ⟨hc1, hdx, ⟨t, hd1⟩, hne, fun hh e => ⟨od, es, ep, e, h2, h3⟩, fun p hp' => ⟨hr p hp', fun e => ?_⟩⟩
  · rcases List.mem_cons.mp hp' with rfl | hp'
    · exact ⟨ho1, hx.2⟩
    · rcases List.mem_cons.mp hp' with rfl | hp'
      · exact ⟨h1, hdL, Heap.get?_none_of_le (Nat.le_trans F.above (Nat.le_trans (Nat.le_of_lt F.ns.lt) hnew))⟩
      · exact ⟨hk' _ _ (hr p hp') (N p (.tail _ hp')).1, (N p (.tail _ hp')).2⟩
  · have := Heap.lt_size (N p (.tail _ hp')).1
    rw [e] at this
    exact Nat.lt_irrefl _ (Nat.lt_of_lt_of_le this hnew)
theorem exc_set2 {Q : Unit → Shared → Prop} {n1 : Str} {v1 : Value} (F : Fr h₀ L s.heap m) (X : (Mine.hd.heap_39 w.params).In h₀) (N : News h₀ L s.heap ((x, o) :: (dx, od) :: rest)) (D : ExcD x dx o od (fun y => if y = n1 then some v1 else none) rest)
    (hlk : findIn (Mine.hd.heap_39 w.params) (.ref 59) name = some none)
    (h : ∀ h' tk' o' od', Fr h₀ L h' m → News h₀ L h' ((x, o') :: (dx, od') :: rest) → o'.cls = .ref 59 → (∃ t, o'.data = .fields #[.ref t, .none, .none, .none, .bool false, .none]) → Q () { s with heap := h', toks := tk' }) :
    wpAny (model PySem.Challenge.rw_pc0363_01.row.prog w) A (setAttr (.ref x) name v) Q E s := by
  have hx := N _ (.head _)
  have hdxN := N _ (.tail _ (.head _))
  have X9 := X.keeps F.keep
  obtain ⟨nm, q, NN, bs, sn, sub, ab, col, dd, k0, k1, k2, k3, k5, hC⟩ := at59 X9
  obtain ⟨hp, gs, d, tk, os⟩ := s
  obtain ⟨t, hdat⟩ := D.data
  refine exc_store_attr (mA := fun y => if y = n1 then some v1 else none) (ns := [n1]) (pass59 x) (by decide +kernel) hC (looks_findIn X9 (by with_unfolding_all rfl)) (looks_findIn X9 hlk) ⟨o, hx.1, D.cls, (fun c e => by rw [hdat] at e; cases e), .inr ⟨dx, D.dict, D.ne, D.ns _ hdxN.1⟩⟩ (fun h' tk' I' hk hsame hnew => ?_) (by within_ways) (by size_fits)
  obtain ⟨o1, ho1, hc1, hd1, hs1, hdd⟩ := hsame _ hx.1
  obtain ⟨o2, ho2, _, _, hI⟩ := I'
  obtain rfl := Option.some.inj (ho1.symm.trans ho2)
  have hdx1 := hdd _ D.dict
  rcases hI with ⟨hI, _⟩ | ⟨dx', hdx', hne, hns⟩
  · rw [hdx1] at hI; cases hI
  obtain rfl : dx = dx' := Option.some.inj (hdx1.symm.trans hdx')
  obtain ⟨od', es, ep, h1, h2, h3⟩ := hns
  have hk' : ∀ b o, b ≠ x → b ≠ dx → hp.get? b = some o → h'.get? b = some o := fun b o hb hbd e => hk b o hb (fun o₀ dx' e0 e1 => by
    obtain rfl := Option.some.inj (hx.1.symm.trans e0)
    rw [D.dict] at e1
    rw [← Option.some.inj e1]
    exact hbd) e
  obtain ⟨oL, esL, epL, hLo, hLr⟩ := F.ns
  refine h h' tk' o1 od' ⟨⟨oL, esL, epL, hk' _ _ (Ne.symm hx.2.1) (Ne.symm hdxN.2.1) hLo, hLr⟩, fun b ob e => hk' b ob (fun q => by rw [q, hx.2.2] at e; cases e) (fun q => by rw [q, hdxN.2.2] at e; cases e) (F.keep b ob e), F.above⟩ (fun p hp' => ?_) (hc1.trans D.cls) ⟨t, hd1.trans hdat⟩
  rcases List.mem_cons.mp hp' with rfl | hp'
  · exact ⟨ho1, hx.2⟩
  · rcases List.mem_cons.mp hp' with rfl | hp'
    · exact ⟨h1, hdxN.2⟩
    · exact ⟨hk' _ _ (D.apart p hp').1 (D.apart p hp').2 (N p (.tail _ (.tail _ hp'))).1, (N p (.tail _ (.tail _ hp'))).2⟩
end
section
variable {w : World} {lo : List Str} {me : ExcName → Option Value} {mg mb : Str → Option Value}
    {dp un : Nat} {gd : Option (List Code)} {cn : Str} {csc : Scope} {a : Addr} {ccd : Value} {cl : List (Str × Addr)} {outer : List Env} {A₀ : Around} {base h₀ : Heap} {L : Addr} {m : Str → Option Value} {s : Shared} {Q E : Value → Shared → Prop}
/-- a new exception of the own class stands on the ledger -/
theorem excNew_news {rest : List (Addr × Obj)} {h : Heap} {C : Addr} {vs : List Value} (F : Fr h₀ L h m) (N : News h₀ L h rest) : Fr h₀ L (excNew h C vs) m ∧
    News h₀ L (excNew h C vs) ((h.objs.size + 1, exO C h.objs.size none) :: rest) := by
  have hk := excNew_keeps (h := h) (C := C) (rest := vs)
  refine ⟨F.keeps hk, fun p hp => ?_⟩
  rcases List.mem_cons.mp hp with rfl | hp
  · exact ⟨by unfold excNew; heap_get, Nat.ne_of_gt (Nat.lt_succ_of_lt F.ns.lt), Heap.get?_none_of_le (Nat.le_trans F.above (Nat.le_succ_of_le (Nat.le_of_lt F.ns.lt)))⟩
  · exact ⟨hk _ _ (N p hp).1, (N p hp).2⟩
theorem drop2 {h : Heap} {p q : Addr × Obj} {l : List (Addr × Obj)} (N : News h₀ L h (p :: q :: l)) : News h₀ L h (p :: l) := fun z hz => by
  rcases List.mem_cons.mp hz with rfl | hz
  · exact N _ (.head _)
  · exact N _ (.tail _ (.tail _ hz))
theorem meta_Exception : typeOf (.type "Exception") = pure (.type "type") := by rfl
local macro_rules | `(tactic| walk_at "getMethod type:Exception") => `(tactic| (k_here; refine stop ?_))
local macro_rules | `(tactic| walk_at "call builtin:Exception.__init__") => `(tactic| (k_here; refine stop ?_))
local macro_rules | `(tactic| walk_at "setAttr ref") => `(tactic| (k_here; refine stop ?_))
set_option maxRecDepth 100000 in
set_option maxHeartbeats 4000000 in
theorem setting_make {t : Str} {tk : Tok} {rest : List (Addr × Obj)}
    (C : Cal w lo me mg mb dp un csc A₀ base outer h₀ L s.heap m) (N : News h₀ L s.heap rest) (hdp : dp + 40 < recursionLimit) (hun : un + 400 < cLine)
    (ret : ∀ x o h' tk', (∀ p ∈ rest, p.1 < x) → Fr h₀ L h' m → News h₀ L h' ((x, o) :: rest) → o.cls = .ref 59 → (∃ t, o.data = .fields #[.ref t, .none, .none, .none, .bool false, .none]) → Q (.ref x) { s with heap := h', toks := tk' }) :
    wpAny (model PySem.Challenge.rw_pc0363_01.row.prog w) (ktrTop dp un gd cn csc L a ccd cl outer) (call (.ref 59) [.str t tk]) Q E s := by
  obtain ⟨B, F, X, T, hk, _, _⟩ := C
  w_on
  w_strict (
    (revert X; k_fill; intro X)
    obtain ⟨hp, gs, d, tks, os⟩ := s
    dsimp only at F N ret
    have X9 := X.keeps F.keep
    refine' exc_class_call (B := "Exception") (C := 59) (f := 56) PySem.F.excBase_Exception line59 X9 ?f1 (X9 _ _ ?f2) (looks_findIn X9 ?f3) ?_ ?f4
    (case f1 => k_is)
    (case f2 => with_unfolding_all rfl)
    (case f3 => k_is)
    (case f4 => size_fits)
    clear X9
    obtain ⟨F1, N1⟩ := excNew_news (C := 59) (vs := [.str t tk]) F N
    have hlt : ∀ p ∈ rest, p.1 < hp.objs.size + 1 := fun p hp' => Nat.lt_succ_of_lt (Heap.lt_size (N p hp').1)
    generalize excNew hp 59 [.str t tk] = h1 at F1 N1 ⊢
    generalize hp.objs.size + 1 = x at F1 N1 hlt ⊢
    generalize hp.objs.size = y at N1
    have hr : ∀ p ∈ rest, p.1 ≠ x := fun p hp' => Nat.ne_of_lt (hlt p hp')
    refine wpAny_call ?_
    k_dflt (refine' code_def ?k1 ?k2 ?k3 ?k4 ?k5 ?kA ?kF ?kK ?k6 ?k7 ?k8 ?k9 ?kB ?_ ?c2 ?c3 ?c4 ?c5; (case kA => exact rfl); (case kF => exact rfl); (case kK => assumption); (case k1 => k_asm); (case k2 => k_asm); (case k3 => k_asm); (case k4 => k_asm); (case k5 => k_asm); (case k6 => k_is); (case k7 => k_is); (case k8 => ktr_room); (case k9 => first | exact BindsTo.of_eq rfl | exact binds_K (by k_in) rfl (by k_is) rfl rfl rfl); (case c5 => decide); (case kB => exact locs rfl); (case c2 => exact rfl); (case c3 => exact rfl); (case c4 => exact rfl); k_whole; intro zg' zL' zh' zFG' zF' zN' zB' zX' zT'; (try dsimp only); (try k_lift zB'); (try k_fold))
    k_steps
    repeat (any_goals (unfold Stop; (first | (first | (refine' exc_set1 (by k_asm) (by k_asm) (by k_asm) (by assumption) (by k_is) ?_; k_whole; intro zh' tk' dx' o' od' zF' zN' D') | (refine' exc_set2 (by k_asm) (by k_asm) (by k_asm) (by assumption) (by k_is) ?_; k_whole; intro zh' tk' o' od' zF' zN' c' d')) | ((with_reducible show wpAny _ _ (call (Value.builtin "Exception.__init__") _) _ _ _); refine' exc_init_K (by k_asm) (by k_asm) (by k_asm) (by assumption) ?_; k_whole; intro z' zh' zF' zN') | (refine' method_type (by k_asm) (by k_asm) (by exact meta_Exception) (by decide +kernel) (by k_dflt k_is) (by k_handed) ?_)); k_steps))
    (rename News _ _ _ _ => kN9)
    (rename Fr _ _ _ _ => kF9)
    exact ret _ _ _ _ hlt kF9 (drop2 kN9) (by assumption) (by assumption))
end
/-- an exception of class C flies over the frames l: what stood at G (but these frames' slots) and the ledger stands still -/
def RaisedE (base G : Heap) (l : List Env) (e : Addr) (cls : Value) (news : List (Addr × Obj)) (h : Heap) : Prop :=
  ∃ B a0, base.StaysIn B ∧ (∀ b o, G.get? b = some o → b ∉ l.filterMap (·.frame) → B.get? b = some o) ∧ (∀ q ∈ news, B.get? q.1 = some q.2 ∧ G.get? q.1 = none ∧ base.get? q.1 = none) ∧ Heap.FlyingW B l e cls a0 h
theorem memX {env : Env} {L b : Addr} {outer : List Env} (hf : env.frame = some L) (hm : b ∈ (env :: outer).filterMap (·.frame)) : b = L ∨ b ∈ outer.filterMap (·.frame) := by
  obtain ⟨env', he, hf'⟩ := List.mem_filterMap.mp hm
  rcases List.mem_cons.mp he with rfl | he
  · exact .inl (Option.some.inj (hf'.symm.trans hf))
  · exact .inr (List.mem_filterMap.mpr ⟨env', he, hf'⟩)
section
variable {M : Model} {A : Around} {E : Value → Shared → Prop} {s' : Shared} {base g g₂ h : Heap} {env : Env} {outer : List Env} {L e : Addr} {m : Str → Option Value} {Q : Unit → Shared → Prop} {news : List (Addr × Obj)}
theorem leave_raiseE {oe : Obj} {a0 : Value} {vs : Array Value} (K : Below A base outer g) (F : Fr g L s'.heap m) (N : News g L s'.heap ((e, oe) :: news)) (hd : oe.data = .fields vs) (h1 : vs[1]? = some .none) (h0 : vs[0]? = some a0) (hne : ∀ q ∈ news, q.1 ≠ e)
    (hf : env.frame = some L) (hk : env.scope.kind = .function)
    (hQ : ∀ h', RaisedE base g outer e oe.cls news h' → g.UpToSlots h' → Q () { s' with heap := h' }) :
    wpAny M (A.deeper env) (leaving env (.ref e)) Q E s' := by
  have K' := pushX (env := env) K F hf hk
  have he := N _ (.head _)
  have hin : ∀ env' ∈ (env :: outer), ∀ b, env'.frame = some b → b ∈ e :: (env :: outer).filterMap (·.frame) := fun env' he b hb => List.mem_cons_of_mem _ (List.mem_filterMap.mpr ⟨env', he, hb⟩)
  have hbe : base.get? e = none := fresh_of_stays K.stays he.2.2
  have st : base.StaysIn (hideAll s'.heap (e :: (env :: outer).filterMap (·.frame))) := fun b o q => hideAll_get _ (K'.stays b o q) fun hm => by
    rcases List.mem_cons.mp hm with rfl | hm
    · rw [hbe] at q; cases q
    · rw [(K'.frames.mem hm).1] at q; cases q
  have sg : ∀ b o, g.get? b = some o → b ∉ outer.filterMap (·.frame) → (hideAll s'.heap (e :: (env :: outer).filterMap (·.frame))).get? b = some o := fun b o q nm => hideAll_get _ (F.keep b o q) fun hm => by
    rcases List.mem_cons.mp hm with rfl | hm
    · rw [he.2.2] at q; cases q
    · rcases memX hf hm with z | z
      · rw [z, kts_self F] at q; cases q
      · exact nm z
  have hl : ∀ q ∈ news, (hideAll s'.heap (e :: (env :: outer).filterMap (·.frame))).get? q.1 = some q.2 ∧ g.get? q.1 = none ∧ base.get? q.1 = none := fun q hq => by
    have hq' := N q (.tail _ hq)
    refine ⟨hideAll_get _ hq'.1 fun hm => ?_, hq'.2.2, fresh_of_stays K.stays hq'.2.2⟩
    rcases List.mem_cons.mp hm with z | hm
    · exact hne q hq z
    · rcases memX hf hm with z | z
      · exact hq'.2.1 z
      · obtain ⟨o, ho, _⟩ := (K.frames.mem z).2
        rw [hq'.2.2] at ho; cases ho
  refine wpAny_leaving_firstW K'.stack (funFrames_hide K'.frames hin) hf he.1 (fun b o q => of_hideAll _ q) (hideAll_none _ (.head _)) hd h1 h0 fun h' hL => ?_
  obtain ⟨k1, ⟨_, _, k2⟩, k3, k4⟩ := hL
  exact hQ h' ⟨_, a0, st, sg, hl, k1, hideAll_none _ (.head _), k2, k3⟩ ((Heap.UpToSlots.of_keeps F.keep).trans k4)
theorem leave_onE {cls : Value} (K : Below A base outer g) (F : Fr g L g₂ m) (hf : env.frame = some L) (R : RaisedE base g₂ (env :: outer) e cls news s'.heap) (hsm : g₂.UpToSlots s'.heap)
    (hQ : ∀ h', RaisedE base g outer e cls news h' → g.UpToSlots h' → Q () { s' with heap := h' }) :
    wpAny M (A.deeper env) (leaving env (.ref e)) Q E s' := by
  obtain ⟨B, a0, hB, hBG, hl, hfl⟩ := R
  exact wpAny_leaves_onW (Around.frames_deeper K.stack) hf hfl fun h' x1 x2 =>
    hQ h' ⟨B, a0, hB, fun b o q nm => hBG b o (F.keep b o q) (fun hm => by
      rcases memX hf hm with z | z
      · rw [z, kts_self F] at q
        cases q
      · exact nm z), fun q hq => ⟨(hl q hq).1, kts_none F.keep (hl q hq).2.1, (hl q hq).2.2⟩, x1⟩ ((Heap.UpToSlots.of_keeps F.keep).trans (hsm.trans x2))
end
section
variable {A₀ : Around} {base g G B h₅ : Heap} {env : Env} {outer : List Env} {L : Addr} {m : Str → Option Value}
theorem groundE (K : Below A₀ base outer g) (F : Fr g L G m) (hf : env.frame = some L) (hBG : ∀ b o, G.get? b = some o → b ∉ (env :: outer).filterMap (·.frame) → B.get? b = some o) (hBh : B.StaysIn h₅) (hsm : G.UpToSlots h₅) :
    ∃ g', KtsTurn (outer.filterMap (·.frame)) g g' ∧ Fr g' L h₅ m ∧ Below A₀ base outer g' := by
  obtain ⟨T, S⟩ := kts_turn_at (h := h₅) (fs := outer.filterMap (·.frame)) (g := g)
    (fun b hb => by
      obtain ⟨_, o, ho, _⟩ := K.frames.mem hb
      exact ⟨o, ho⟩)
    (fun b o e nm => hBh b o (hBG b o (F.keep b o e) (fun hm => by
      rcases memX hf hm with z | z
      · rw [z, kts_self F] at e
        cases e
      · exact nm z)))
    (fun b o e hm => by
      obtain ⟨_, o', ho', hd⟩ := K.frames.mem hm
      rw [e] at ho'
      cases ho'
      exact hsm b o (F.keep b o e) hd)
  refine ⟨_, T, ⟨hsm.ns F.ns, S, by rw [T.size]; exact F.above⟩, ⟨K.stack, fun b o e => T.other b o (K.stays b o e) (fun hm => by
    rw [(K.frames.mem hm).1] at e
    cases e), K.frames.of_keeps fun b o e _ => ?_⟩⟩
  obtain ⟨sl, hs⟩ := T.up e
  exact ⟨_, hs, rfl⟩
end
section
variable {prog : Program} {w : World} {A₀ : Around} {E : Value → Shared → Prop} {s' : Shared} {base g G : Heap} {outer : List Env} {L a e C : Addr} {m : Str → Option Value} {name : Str} {scope : Scope} {cd : Value} {cl : List (Str × Addr)}
  {b₀ : Stmt} {suite : List Stmt} {pos np : Pos} {rest : List ExceptHandler} {Q : Flow → Shared → Prop} {news : List (Addr × Obj)} {KF : Frag}
  {p : Program} {loose : List Str} {mean : ExcName → Option Value} {mg mb : Str → Option Value} {x : Str}
theorem caughtE (R : RaisedE base G (envX name scope L a cd cl :: outer) e (.ref C) news s'.heap) (F : Fr g L G m) (K : Below A₀ base outer g) (hsm : G.UpToSlots s'.heap) (XB : KF.In base) (TB : Top p loose mean mg mb base)
    (ex : nsIn KF mainGlobals x = some (some (.ref C))) (q : ktsIn KF C "BaseException" = true)
    (k : ∀ h' g', KtsTurn (outer.filterMap (·.frame)) g g' → Fr g' L h' m → News g' L h' news → Below A₀ base outer g' → KF.In g' → Top p loose mean mg mb g' →
      wpAny (model prog w) ((A₀.deeper (envX name scope L a cd cl)).mark (some (.ref e))) (execs (b₀ :: suite) (envX name scope L a cd cl)) Q E { s' with heap := h' })
    (hk : scope.kind = .function := by rfl) (hx : (envX name scope L a cd cl).kindOf x = some .globalImplicit := by rfl) (hd : (x == ("__debug__" : Str)) = false := by decide)
    (hE : PassesOwnAt (model prog w) ((A₀.deeper (envX name scope L a cd cl)).mark (some (.ref e))) (A₀.deeper (envX name scope L a cd cl)) (envX name scope L a cd cl) E := by passes_own) :
    wpAny (model prog w) (A₀.deeper (envX name scope L a cd cl)) (noteFrame (.ref e) (envX name scope L a cd cl))
      (fun _ s₂ => wpAny (model prog w) (A₀.deeper (envX name scope L a cd cl)) (setFlight (.ref e) none) (fun _ s₃ =>
        wpAny (model prog w) (A₀.deeper (envX name scope L a cd cl)) (handleBy (.ref e) (envX name scope L a cd cl) (.ExceptHandler (some (.Name x np)) none (b₀ :: suite) pos :: rest)) Q E s₃) E s₂) E s' := by
  obtain ⟨B, a0, hB, hBG, hl, hfl⟩ := R
  have hf : (envX name scope L a cd cl).frame = some L := rfl
  have hL : B.get? L = none := by
    obtain ⟨_, ⟨L', _, hf, hn', _⟩, _⟩ := hfl.2.2.1
    obtain rfl : L = L' := Option.some.inj hf
    exact hn'
  refine wpAny_looks_onW (Around.frames_deeper K.stack) rfl hfl fun h₄ hheld₄ hsm₄ => ?_
  refine wpAny_landsW hheld₄ fun h₅ hheld hsm₅' => ?_
  have hsm₅ := hsm₄.trans hsm₅'
  obtain ⟨g₅, T₅, F₅, K₅⟩ := groundE K F hf hBG hheld.1 (hsm.trans hsm₅)
  have X₅ : KF.In g₅ := XB.keeps K₅.stays
  have P₅ : TopRead p loose mg mb g₅ := topRead_of (TB.keeps K₅.stays)
  obtain ⟨ob, hob, hobc⟩ := hheld.there
  obtain ⟨nm, q', N, bs, bm, hdct, sn, sub, ab, col, dd, k0, k1, k2, k3, k5, newId, hC, hbase, hbT⟩ := kts_cls X₅ q
  have hC₅ := F₅.keep _ _ hC
  refine wpAny_handleBy_cons (codeAny_handlers_test (nameX_K F₅ X₅ P₅ ex ?_ hk hx hd)) (by intro q; cases q)
  refine wpAny_excMatches_sub_self hC₅ hob hobc hbase (codeAny_handlers_suite ?_)
  refine lands_againW hheld fun h₆ hfl₆ hsm₆ => ?_
  obtain ⟨g₆, T₆, F₆, K₆⟩ := groundE K F hf hBG hfl₆.1 ((hsm.trans hsm₅).trans hsm₆)
  have Nl : News g₆ L h₆ news := fun q hq => ⟨hfl₆.1 _ _ (hl q hq).1, (fun z => by have := (hl q hq).1; rw [z, hL] at this; cases this), T₆.none_ _ (kts_none F.keep (hl q hq).2.1)⟩
  exact wpAny_passesOwnAt hE (k h₆ g₆ T₆ F₆ Nl K₆ (XB.keeps K₆.stays) (TB.keeps K₆.stays))
end
section
variable {M : Model} {A : Around} {E : Value → Shared → Prop} {s : Shared} {env : Env} {w : World}
/-- where a raised exception of the own class leaves its statement -/
def RaiseAt (w : World) (E : Value → Shared → Prop) (v : Value) (s₁ : Shared) : Prop :=
  ∃ e o, v = .ref e ∧ (Mine.hd.heap_39 w.params).In s₁.heap ∧ s₁.heap.get? e = some o ∧ o.cls = .ref 59 ∧ (∃ t, o.data = .fields #[.ref t, .none, .none, .none, .bool false, .none]) ∧ E (.ref e) s₁
theorem raise_stmt {x : Sem Value} {Q : Flow → Shared → Prop} (hh : A.handled = none) (h : wpAny M A x (RaiseAt w E) E s) : wpAny M A (raiseStmt env (some x) none) Q E s := by
  unfold raiseStmt
  refine wpAny_bind (wpAny_mono h (fun v s₁ h₁ => ?_) fun _ _ x => x)
  obtain ⟨e, ⟨oc, od, odt, osl⟩, rfl, X, he, hc, ⟨t, hdt⟩, hE⟩ := h₁
  dsimp only at hc hdt
  subst hc hdt
  obtain ⟨nm, q, NN, bs, sn, sub, ab, col, dd, k0, k1, k2, k3, k5, hC⟩ := at59 X
  have hcB : (Value.ref 59 :: [Value.ref 38, .type "Exception", .type "BaseException", .type "object"]).contains (.type "BaseException") = true := by rw [List.contains_cons, line59.hasBase, Bool.or_true]
  obtain ⟨hp, g, d, tk, os⟩ := s₁
  repeat (first | with_reducible refine wpAny_loadPart_at he ?_ | with_reducible refine wpAny_loadPart_at hC ?_ | (with_reducible refine wpAny_isSubtype_exc hC ?_; rw [hcB]) | wp_step)
  exact wpAny_raiseNew_none hh hE
theorem raise_exec {e : Expr} {pos : Pos} {Q : Flow → Shared → Prop} (hh : A.handled = none) (h : wpAny M A (eval e env) (RaiseAt w E) E s) : wpAny M A (exec (.Raise (some e) none pos) env) Q E s := by
  rw [arm_exec_Raise]
  first
    | exact wpAny_bind (wpAny_standAt (raise_stmt hh (wpAny_bind (wpAny_mono h (fun v s₃ h₃ => wpAny_bind (wpAny_standAt (wpAny_pure h₃))) fun _ _ x => x))))
    | (simp only [evalOpt, Option.map]; exact wpAny_bind (wpAny_standAt (raise_stmt hh (wpAny_bind (wpAny_mono h (fun v s₃ h₃ => wpAny_bind (wpAny_standAt (wpAny_pure h₃))) fun _ _ x => x)))))
end
section
variable {prog : Program} {w : World} {A₀ A : Around} {s : Shared} {base h₀ : Heap} {L a : Addr} {m : Str → Option Value} {cn : Str} {cs : Scope} {ccd : Value} {news : List (Addr × Obj)} {K : Frag} {p : Program} {loose : List Str} {mean : ExcName → Option Value} {mg mb : Str → Option Value}
    {R : Result → Shared → Prop} {name qual : Str} {params : Arguments} {body : List Stmt} {scope : Scope} {dV kV doc pm cdv ct oc : Value} {an od : Option Addr} {osl : Array (Option Value)} {f : Addr} {args : Args} {binds : List (Str × Value)}
/-- a def with cells, called by the law itself: the law's frame may have other slots when it comes back -/
theorem code_defCS0 (B : Below A₀ base [] h₀) (F : Fr h₀ L s.heap m) (X₀ : K.In h₀) (N : News h₀ L s.heap news) (T : Top p loose mean mg mb h₀) (hA : A.frames = some [envOf cn cs L a ccd])
    (ho : K.lookup f = some ⟨oc, od, .func (fnOf name qual params body scope dV kV doc pm an cdv ct), osl⟩) (hcd : codeIn K cdv qual = true) (hroom : A.depth < recursionLimit)
    (hbind : BindsTo s (fnOf name qual params body scope dV kV doc pm an cdv ct) args binds) (hkind : (binds.all fun y => scope.names.lookup y.1 == some .local || scope.names.lookup y.1 == some .cell) = true)
    (hnd : ((cellsFrom 0 scope.names []).map (·.1)).Nodup)
    (h : ∀ g L' h₁ tk cells, Fr h₀ L g m → Fr g L' h₁ (bindL (envOfC qual scope L' f cdv).kindOf binds fun _ => none) → News g L' h₁ (cells ++ news) →
      CellsAre (bindC (envOfC qual scope L' f cdv).kindOf binds fun _ => none) (cellsFrom (L' + 1) scope.names []) cells → Below A base [envOf cn cs L a ccd] g → K.In g → Top p loose mean mg mb g → (∀ p ∈ news, p.1 < L') →
      wpAny (model prog w) (A.deeper (envOfC qual scope L' f cdv)) (execs body (envOfC qual scope L' f cdv))
        (fun fl s' => LeaveS0 ([envOf cn cs L a ccd].filterMap (·.frame)) h₀ L m g R (match fl with | .ret v => v | _ => .none) s')
        (fun e s' => wpAny (model prog w) (A.deeper (envOfC qual scope L' f cdv)) (leaving (envOfC qual scope L' f cdv) e) (fun _ s'' => R (.error e) s'') (fun e' s'' => R (.error e') s'') s')
        { s with heap := h₁, toks := tk })
    (hck : cs.kind = .function) (hco : scope.isCoroutine = false) (hgen : scope.isGenerator = false) (hk : scope.kind = .function) : codeAny (model prog w) A (.call (.ref f) args) R s := by
  have X := X₀.keeps F.keep
  obtain ⟨oL, es, ep, hLg, hLd, hN, hNs, st, B₂⟩ := kts_enter B F N hA hck
  refine codeAny_call_function hroom (X _ _ ho) rfl hco hgen rfl (codeRec_of X hcd) (hbind _ _ _ _ ?_)
  refine wpAny_newFunctionEnv_cells hk (kindsX hkind _) fun env' he s' x => ?_
  subst he
  refine ⟨(T.nolimit.keeps F.keep).keeps x.toInCall.keep, codeAny_func ?_⟩
  obtain ⟨h₁, tk, rfl, _⟩ := x.done
  have hk₁ := x.toInCall.keep
  obtain ⟨cells, NC, Y⟩ := Cl.news (h₀ := s.heap) (Nat.le_refl _) fun n c hm => ⟨x.cell n c (lookup_of_mem_nodup (cellsFrom_names scope.names 0 (s.heap.objs.size + 1) [] [] rfl ▸ hnd) hm), x.above n c hm⟩
  refine wpAny_mono (h _ s.heap.objs.size h₁ tk cells ⟨hN _ hLg, st, F.above⟩ ⟨x.toInCall.ns, fun b o e => hk₁ b o (of_hideAll _ e), Nat.le_of_eq (hideAll_size _ _)⟩ (fun p hp => ?_) Y B₂ (X₀.keeps st) (T.keeps st) (fun p hp => Heap.lt_size (N p hp).1)) (fun fl s' hl => ?_) fun _ _ y => y
  · rcases List.mem_append.mp hp with hp | hp
    · refine ⟨(NC p hp).1, (NC p hp).2.1, ?_⟩
      cases q : (hideAll s.heap (news.map (·.1))).get? p.1 with
      | none => rfl
      | some o => have := of_hideAll _ q; rw [(NC p hp).2.2] at this; cases this
    · exact ⟨hk₁ _ _ (N p hp).1, Nat.ne_of_lt (Heap.lt_size (N p hp).1), hideAll_none _ (List.mem_map_of_mem hp)⟩
  obtain ⟨g', L', m', news', T', F', N', k⟩ := hl
  have nL₀ : h₀.get? L = none := kts_self F
  obtain ⟨sl, hs⟩ := T'.up hLg
  refine k ⟨hNs sl _ (F'.keep _ _ hs), fun b o e => F'.keep b o (T'.other b o (st b o e) (fun q => by
    rcases kts_mem q with z | z
    · rw [z, nL₀] at e
      cases e
    · simp at z)), F.above⟩ fun p hp => ⟨(N' p hp).1, fun q => ?_, ?_⟩
  · have := (N' p hp).2.2; rw [q, hs] at this; cases this
  · cases q : h₀.get? p.1 with
    | none => rfl
    | some o =>
      obtain ⟨sl', hs'⟩ := T'.up (st _ _ q)
      have := (N' p hp).2.2
      rw [hs'] at this
      cases this
end
section
variable {prog : Program} {w : World} {A : Around} {s : Shared} {env : Env} {R : Result → Shared → Prop} {x : Str} {px : Pos} {body : List Stmt}
/-- a for over a made list, by what holds of the whole state between the turns -/
theorem for_list_J {I l : Addr} {items : Array Value} (hh : A.handled = none) (hne : l ≠ I) (J : Nat → Shared → Prop) (hSt : ∀ i s', J i s' → s'.heap.IsListIter I l i ∧ s'.heap.IsList l items)
    (turn : ∀ i v s' h' tk, i < items.size → items[i]? = some v → J i s' → h'.IsListIter I l (i + 1) → (∀ b o, b ≠ I → s'.heap.get? b = some o → h'.get? b = some o) →
      wpAny (model prog w) A (assign (.Name x px) env v) (fun _ s₂ => wpAny (model prog w) A (execs body env) (fun f s₃ => (f = .next ∨ f = .cont) ∧ J (i + 1) s₃) (fun _ _ => False) s₂) (fun _ _ => False) { s' with heap := h', toks := tk })
    (done : ∀ s' h' tk, J items.size s' → (∀ b o, b ≠ I → s'.heap.get? b = some o → h'.get? b = some o) → R (.ok .next) { s' with heap := h', toks := tk }) (h0 : J 0 s) :
    codeAny (model prog w) A (.forLoop (.Name x px) (.ref I) body [] env) R s := by
  have W := Walks.list (prog := prog) (w := w) hh I l hne items
  have nope : ∀ {E : Value → Shared → Prop}, ∀ e s', (fun (_ : Value) (_ : Shared) => False) e s' → E e s' := fun _ _ z => z.elim
  refine codeAny_forLoop_any (fun k s' => ∃ i, i ≤ items.size ∧ J i s' ∧ k = items.size + 1 - i) ?_ (items.size + 1) ⟨0, Nat.zero_le _, h0, rfl⟩
  rintro k s' ⟨i, hi, hJ, rfl⟩
  by_cases hlt : i < items.size
  · refine W.item i _ _ _ hlt (hSt i s' hJ) fun v h₁ tk₁ hP hst₁ hk₁ => ?_
    refine wpAny_pure ?_
    refine wpAny_mono (turn i v s' h₁ tk₁ hlt hP hJ hst₁.1 (fun b o hb e => hk₁ b o (fun q => hb (List.mem_singleton.mp q)) e)) (fun _ s₂ h₂ => wpAny_mono h₂ (fun f s₃ h₃ => ?_) nope) nope
    obtain ⟨hf, hJ'⟩ := h₃
    rcases hf with rfl | rfl <;> exact ⟨items.size + 1 - (i + 1), by omega, i + 1, hlt, hJ', rfl⟩
  · have hin : i = items.size := by omega
    subst hin
    refine W.done _ _ _ (hSt _ s' hJ) fun h₁ tk₁ hk₁ => wpAny_execs_nil ?_
    exact done s' h₁ tk₁ hJ (fun b o hb e => hk₁ b o (fun q => hb (List.mem_singleton.mp q)) e)
end
/-- between the turns of the law's loop over its three calls -/
structure LoopSt (fs : List Addr) (A₀ : Around) (base : Heap) (outer : List Env) (g₀ : Heap) (L : Addr) (x : Str) (m : Str → Option Value) (u : Option Value) (N : List (Addr × Obj)) (s s' : Shared) : Prop where
  ex : ∃ b h tk, s' = { s with heap := h, toks := tk } ∧ KtsTurn fs g₀ b ∧ Below A₀ base outer b ∧ Fr b L h (fun y => if y = x then u else m y) ∧ News b L h N
section
variable {prog : Program} {w : World} {A₀ : Around} {E : Value → Shared → Prop} {s : Shared} {base g₀ : Heap} {outer : List Env} {L a l : Addr} {m : Str → Option Value} {name : Str} {scope : Scope} {cd : Value} {cl : List (Str × Addr)} {x : Str} {px : Pos} {body : List Stmt}
  {items : List Value} {n : Nat} {ledger : List (Addr × Obj)} {R : Result → Shared → Prop} {fs : List Addr}
theorem fr_at {b h h' : Heap} {I : Addr} {u : Str → Option Value} {o : Obj} {N : List (Addr × Obj)} (F : Fr b L h u) (NN : News b L h ((I, o) :: N)) (hk : ∀ z ob, z ≠ I → h.get? z = some ob → h'.get? z = some ob) : Fr b L h' u :=
  ⟨F.ns.extBut hk (Ne.symm (NN _ (.head _)).2.1), fun z ob e => hk z ob (fun q => by rw [q, (NN _ (.head _)).2.2] at e; cases e) (F.keep z ob e), F.above⟩
theorem for_list_K (hh : A₀.handled = none) (hk : scope.kind = .function) (hx : (envX name scope L a cd cl).kindOf x = some .local)
    (B : Below A₀ base outer g₀) (F : Fr g₀ L s.heap m) (N : News g₀ L s.heap ((l, PySem.W.listOf items.toArray n) :: ledger))
    (turn : ∀ v ∈ items, ∀ I o b h tk, (∀ p ∈ (l, PySem.W.listOf items.toArray n) :: ledger, p.1 < I) → KtsTurn fs g₀ b → Below A₀ base outer b → Fr b L h (fun y => if y = x then some v else m y) → News b L h ((I, o) :: (l, PySem.W.listOf items.toArray n) :: ledger) →
      wpAny (model prog w) (A₀.deeper (envX name scope L a cd cl)) (execs body (envX name scope L a cd cl)) (fun f s₃ => (f = .next ∨ f = .cont) ∧ LoopSt fs A₀ base outer g₀ L x m (some v) ((I, o) :: (l, PySem.W.listOf items.toArray n) :: ledger) s s₃) (fun _ _ => False) { s with heap := h, toks := tk })
    (done : ∀ b h tk u, KtsTurn fs g₀ b → Below A₀ base outer b → Fr b L h (fun y => if y = x then u else m y) → News b L h ledger → R (.ok .next) { s with heap := h, toks := tk }) :
    wpAny (model prog w) (A₀.deeper (envX name scope L a cd cl)) (pyIter (.ref l)) (fun it s₂ => codeAny (model prog w) (A₀.deeper (envX name scope L a cd cl)) (.forLoop (.Name x px) it body [] (envX name scope L a cd cl)) R s₂) E s := by
  have hl := N _ (.head _)
  refine wpAny_pyIter_list ⟨_, hl.1, rfl, _, rfl⟩ ?_
  have hlt : ∀ p ∈ (l, PySem.W.listOf items.toArray n) :: ledger, p.1 < s.heap.objs.size := fun p hp => Heap.lt_size (N p hp).1
  generalize hI : s.heap.objs.size = I at hlt
  have hg : ∀ z ob, s.heap.get? z = some ob → (s.heap.push { cls := .type "list_iterator", data := .fields #[.ref l, .int 0 0] }).get? z = some ob := fun z ob e => Heap.get?_push_of_some _ e
  have hIL : L < I := hI ▸ F.ns.lt
  have hN0 : News g₀ L (s.heap.push { cls := .type "list_iterator", data := .fields #[.ref l, .int 0 0] }) ((I, { cls := .type "list_iterator", data := .fields #[.ref l, .int 0 0] }) :: (l, PySem.W.listOf items.toArray n) :: ledger) := fun p hp => by
    rcases List.mem_cons.mp hp with rfl | hp
    · exact ⟨hI ▸ Heap.get?_push_size _ rfl, Nat.ne_of_gt hIL, Heap.get?_none_of_le (Nat.le_trans F.above (Nat.le_of_lt hIL))⟩
    · exact ⟨hg _ _ (N p hp).1, (N p hp).2⟩
  have hF0 : Fr g₀ L (s.heap.push { cls := .type "list_iterator", data := .fields #[.ref l, .int 0 0] }) m := ⟨F.ns.keeps hg, fun z ob e => hg z ob (F.keep z ob e), F.above⟩
  have hm0 : (fun y => if y = x then m x else m y) = m := funext fun y => by
    by_cases e : y = x
    · simp [e]
    · simp [e]
  refine for_list_J (l := l) (items := items.toArray) hh (Nat.ne_of_lt (hlt _ (.head _))) (fun i s' => ∃ o u, o.cls = .type "list_iterator" ∧ o.data = .fields #[.ref l, .int i 0] ∧ LoopSt fs A₀ base outer g₀ L x m u ((I, o) :: (l, PySem.W.listOf items.toArray n) :: ledger) s s') ?_ ?_ ?_ ?_
  · rintro i s' ⟨o, u, hc, hd, ⟨b, h, tk, rfl, T1, B1, F1, N1⟩⟩
    exact ⟨⟨o, (N1 _ (.head _)).1, hc, hd⟩, ⟨_, (N1 _ (.tail _ (.head _))).1, rfl, _, rfl⟩⟩
  · rintro i v s' h' tk' hi hv ⟨o, u, hc, hd, ⟨b, h, tk, rfl, T1, B1, F1, N1⟩⟩ hit hk1
    obtain ⟨o', ho', hc', hd'⟩ := hit
    have F2 := fr_at F1 N1 hk1
    have N2 : News b L h' ((I, o') :: (l, PySem.W.listOf items.toArray n) :: ledger) := fun p hp => by
      rcases List.mem_cons.mp hp with rfl | hp
      · exact ⟨ho', (N1 _ (.head _)).2⟩
      · exact ⟨hk1 _ _ (Nat.ne_of_lt (hlt p hp)) (N1 p (.tail _ hp)).1, (N1 p (.tail _ hp)).2⟩
    refine wpAny_assign_Name (storeX_L F2 N2 (fun h2 F3 N3 => ?_) hk hx)
    have e : (fun y => if y = x then some v else if y = x then u else m y) = fun y => if y = x then some v else m y := funext fun y => by
      by_cases e : y = x <;> simp [e]
    rw [e] at F3
    have hv' : v ∈ items := by
      have : items.toArray[i]? = some v := hv
      rw [List.getElem?_toArray] at this
      exact List.mem_of_getElem? this
    exact wpAny_mono (turn v hv' I o' b h2 _ hlt T1 B1 F3 N3) (fun f s₃ hs => ⟨hs.1, o', _, hc', hd', hs.2⟩) fun _ _ z => z
  · rintro s' h' tk' ⟨o, u, hc, hd, ⟨b, h, tk, rfl, T1, B1, F1, N1⟩⟩ hk1
    exact done b h' tk' u T1 B1 (fr_at F1 N1 hk1) fun p hp => ⟨hk1 _ _ (Nat.ne_of_lt (hlt p (.tail _ hp))) (N1 p (.tail _ (.tail _ hp))).1, (N1 p (.tail _ (.tail _ hp))).2⟩
  · refine ⟨_, m x, rfl, rfl, ⟨g₀, _, s.toks, rfl, KtsTurn.refl, B, ?_, hN0⟩⟩
    rw [hm0]
    exact hF0
end
/-- the law's three refused calls: the loop's body, the scope, the lambdas' bodies and scopes -/
def refusOf (p : Program) : Option (List PySem.Stmt × Scope × List (Expr × Scope)) :=
  match (p.main.body.reverse[2]? : Option PySem.Stmt) with
  | some (PySem.Stmt.FunctionDef _ _ b _ _ _ sc _ _ _) => match (b[1]? : Option PySem.Stmt) with
    | some (PySem.Stmt.For _ (Expr.List ls _) tb _ _) => some (tb, sc, ls.filterMap fun e => match e with | Expr.Lambda _ b s _ => some (b, s) | _ => none)
    | _ => none
  | _ => none
/-- the law's scope -/
def lawScope (p : Program) : Option Scope :=
  match p.main.body.getLast? with
  | some (PySem.Stmt.FunctionDef _ _ _ _ _ _ sc _ _ _) => some sc
  | _ => none
theorem notin_blue {prog : Program} {w : World} {A : Around} {E : Value → Shared → Prop} {s : Shared} {h₀ : Heap} {L : Addr} {m : Str → Option Value} {K : Frag} {t : Addr} {l : List Value} {dd : Option Addr} {sl : Array (Option Value)} {n : Nat} {u : Tok} {Q : Value → Shared → Prop}
    (F : Fr h₀ L s.heap m) (X : K.In h₀) (hl : K.lookup t = some ⟨.type "tuple", dd, .seq l.toArray n, sl⟩) (hi : StrsAre l [Str.ofString "green", Str.ofString "yellow", Str.ofString "red"]) (h : Q (.bool true) s) :
    wpAny (model prog w) A (compareOp .NotIn (.str (Str.ofString "blue") u) (.ref t)) Q E s := by
  refine notin_tuple_strs (tupK (X.keeps F.keep) hl) hi ?_
  have e : (!([Str.ofString "green", Str.ofString "yellow", Str.ofString "red"].any (· == Str.ofString "blue"))) = true := by decide
  rw [e]
  exact h
/-- the arguments of a lambda that has none -/
abbrev noArgs : Arguments := { posonlyargs := [], args := [], vararg := none, kwonlyargs := [], kw_defaults := [], kwarg := none, defaults := [] }
abbrev lamQ : Str := (Str.ofString "_law_refusals_right" ++ ".<locals>.") ++ "<lambda>"
section
variable {w : World} {lo : List Str} {me : ExcName → Option Value} {mg mb : Str → Option Value} {g b : Heap} {L L₂ fa f c : Addr} {cd pm ct : Value} {m : Str → Option Value} {s : Shared} {oc : Obj} {vs : Array Value} {tq : Tok} {rest : List (Addr × Obj)}
local macro_rules | `(tactic| walk_at "mine pad") => `(tactic| fail "pad")
local macro_rules | `(tactic| walk_at "exec Raise some none") => `(tactic| (k_here; refine stop ?_))
local macro_rules | `(tactic| walk_at "call ref") => `(tactic| (k_here; (with_reducible show wpAny _ _ (call (Value.ref 59) _) _ _ _); refine stop ?_))
local macro_rules | `(tactic| walk_at "compareOp NotIn str ref") => `(tactic| (k_here; refine stop ?_))
set_option maxRecDepth 100000 in
set_option maxHeartbeats 8000000 in
theorem refus_turn1 {tb : List Stmt} {lsc sc2 : Scope} {ls : List (Expr × Scope)} {e0 : Expr} {sc0 : Scope} (hls : lawScope PySem.Challenge.pw_pc0363_01 = some lsc) (hib : refusOf PySem.Challenge.pw_pc0363_01 = some (tb, sc2, ls)) (he0 : ls[0]? = some (e0, sc0))
    {x dx b1 b2 : Addr} {k1 k2 k3 : Tok} {oa : Obj} (ha : oa.data = .cell (some (.ref x)))
    (B : Below (callerA.deeper (envOf (Str.ofString "law") lsc L fa cd)) g [envOf (Str.ofString "law") lsc L fa cd] b) (X : (Mine.hd.heap_39 w.params).In g) (Tp : Top topProg lo me mg mb g) (hC : CodeHd g 268 264)
    (F : Fr b L₂ s.heap (fun y => if y = Str.ofString "call" then some (.ref f) else m y))
    (N : News b L₂ s.heap ((f, kla_obj "<lambda>" lamQ noArgs e0 sc0 [(Str.ofString "aware", L₂ + 1)] pm c ct) :: (c, oc) :: (L₂ + 1, oa) :: (x, instObj 165 dx) :: (dx, sg w k1 k2 k3 b1 b2 true) :: rest)) (d1 : oc.data = .fields vs) (d2 : vs[1]? = some (.str lamQ tq)) :
    wpAny (model PySem.Challenge.rw_pc0363_01.row.prog w) ((callerA.deeper (envOf (Str.ofString "law") lsc L fa cd)).deeper (envX (Str.ofString "_law_refusals_right") sc2 L₂ 269 (.ref 268) (cellsFrom (L₂ + 1) sc2.names []))) (execs tb (envX (Str.ofString "_law_refusals_right") sc2 L₂ 269 (.ref 268) (cellsFrom (L₂ + 1) sc2.names [])))
      (fun fl s₃ => (fl = .next ∨ fl = .cont) ∧ LoopSt [L] (callerA.deeper (envOf (Str.ofString "law") lsc L fa cd)) g [envOf (Str.ofString "law") lsc L fa cd] b L₂ (Str.ofString "call") m (some (.ref f)) rest s s₃) (fun _ _ => False) s := by
  have hls2 := Option.some.inj (hls : some _ = some lsc)
  cases hls2
  have hib2 := Option.some.inj (hib : some _ = some (tb, sc2, ls))
  cases hib2
  have he2 := Option.some.inj (he0 : some _ = some (e0, sc0))
  cases he2
  have X1 := X.keeps B.stays
  have Tp1 := Tp.keeps B.stays
  have hC1 : CodeHd b 268 264 := hC.keeps B.stays
  dsimp only [sg] at N
  w_on
  w_strict (
    (revert X X1; k_fill; intro X X1)
    (try k_fold)
    k_steps
    unfold Stop
    refine' notin_blue (by k_asm) (by k_asm) (by k_is) (by kde_strs) ?_
    k_steps
    unfold Stop
    refine raise_exec (w := w) rfl ?_
    k_steps
    unfold Stop
    refine' setting_make (by exact ⟨by k_asm, by k_asm, by k_asm, by k_asm, by rfl, by ktr_room, Nat.le_of_ble_eq_true rfl⟩) (by k_asm) (by ktr_room) (by exact Nat.le_of_ble_eq_true rfl) ?_
    intro x4 o4 h4 tk4 hl4 F4 N4 hc4 hd4
    have hd4' := hd4
    obtain ⟨t4, hd4'⟩ := hd4'
    (rename Frag.In _ _ => kX4)
    refine ⟨x4, o4, rfl, kX4.keeps F4.keep, (N4 _ (.head _)).1, hc4, hd4, ?_⟩
    refine' leave_raiseE (by assumption) F4 N4 hd4' rfl rfl (fun q hq => Nat.ne_of_lt (hl4 q hq)) rfl rfl ?_
    intro h5 R5 U5
    k_steps
    refine' leave_onE (by assumption) (by assumption) rfl R5 U5 ?_
    intro h6 R6 U6
    k_steps
    refine' leave_onE (by assumption) (by assumption) rfl R6 U6 ?_
    intro h7 R7 U7
    k_steps
    rw [hc4] at R7
    refine' caughtE (KF := Mine.hd.heap_39 w.params) (C := 59) (x := Str.ofString "SettingError") R7 (by assumption) (by assumption) U7 X Tp (by first | k_is | k_ownname) (by kts_isx) ?_ rfl rfl (by decide) (by passes_own)
    intro h8 g8 T8 F8 N8 B8 X8 Tp8
    k_steps
    · exact .inr rfl
    · exact ⟨_, _, _, rfl, T8, B8, F8, fun p hp => N8 p (by repeat (first | exact hp | apply List.Mem.tail))⟩)
set_option maxRecDepth 100000 in
set_option maxHeartbeats 8000000 in
theorem refus_turn2 {tb : List Stmt} {lsc sc2 : Scope} {ls : List (Expr × Scope)} {e0 : Expr} {sc0 : Scope} (hls : lawScope PySem.Challenge.pw_pc0363_01 = some lsc) (hib : refusOf PySem.Challenge.pw_pc0363_01 = some (tb, sc2, ls)) (he0 : ls[1]? = some (e0, sc0))
    (B : Below (callerA.deeper (envOf (Str.ofString "law") lsc L fa cd)) g [envOf (Str.ofString "law") lsc L fa cd] b) (X : (Mine.hd.heap_39 w.params).In g) (Tp : Top topProg lo me mg mb g) (hC : CodeHd g 268 264)
    (F : Fr b L₂ s.heap (fun y => if y = Str.ofString "call" then some (.ref f) else m y))
    (N : News b L₂ s.heap ((f, kla_obj "<lambda>" lamQ noArgs e0 sc0 [] pm c ct) :: (c, oc) :: rest)) (d1 : oc.data = .fields vs) (d2 : vs[1]? = some (.str lamQ tq)) :
    wpAny (model PySem.Challenge.rw_pc0363_01.row.prog w) ((callerA.deeper (envOf (Str.ofString "law") lsc L fa cd)).deeper (envX (Str.ofString "_law_refusals_right") sc2 L₂ 269 (.ref 268) (cellsFrom (L₂ + 1) sc2.names []))) (execs tb (envX (Str.ofString "_law_refusals_right") sc2 L₂ 269 (.ref 268) (cellsFrom (L₂ + 1) sc2.names [])))
      (fun fl s₃ => (fl = .next ∨ fl = .cont) ∧ LoopSt [L] (callerA.deeper (envOf (Str.ofString "law") lsc L fa cd)) g [envOf (Str.ofString "law") lsc L fa cd] b L₂ (Str.ofString "call") m (some (.ref f)) rest s s₃) (fun _ _ => False) s := by
  have hls2 := Option.some.inj (hls : some _ = some lsc)
  cases hls2
  have hib2 := Option.some.inj (hib : some _ = some (tb, sc2, ls))
  cases hib2
  have he2 := Option.some.inj (he0 : some _ = some (e0, sc0))
  cases he2
  have X1 := X.keeps B.stays
  have Tp1 := Tp.keeps B.stays
  have hC1 : CodeHd b 268 264 := hC.keeps B.stays
  w_on
  w_strict (
    (revert X X1; k_fill; intro X X1)
    (try k_fold)
    k_steps
    unfold Stop
    refine raise_exec (w := w) rfl ?_
    k_steps
    unfold Stop
    refine' setting_make (by exact ⟨by k_asm, by k_asm, by k_asm, by k_asm, by rfl, by ktr_room, Nat.le_of_ble_eq_true rfl⟩) (by k_asm) (by ktr_room) (by exact Nat.le_of_ble_eq_true rfl) ?_
    intro x4 o4 h4 tk4 hl4 F4 N4 hc4 hd4
    have hd4' := hd4
    obtain ⟨t4, hd4'⟩ := hd4'
    (rename Frag.In _ _ => kX4)
    refine ⟨x4, o4, rfl, kX4.keeps F4.keep, (N4 _ (.head _)).1, hc4, hd4, ?_⟩
    refine' leave_raiseE (by assumption) F4 N4 hd4' rfl rfl (fun q hq => Nat.ne_of_lt (hl4 q hq)) rfl rfl ?_
    intro h5 R5 U5
    k_steps
    refine' leave_onE (by assumption) (by assumption) rfl R5 U5 ?_
    intro h6 R6 U6
    k_steps
    rw [hc4] at R6
    refine' caughtE (KF := Mine.hd.heap_39 w.params) (C := 59) (x := Str.ofString "SettingError") R6 (by assumption) (by assumption) U6 X Tp (by first | k_is | k_ownname) (by kts_isx) ?_ rfl rfl (by decide) (by passes_own)
    intro h8 g8 T8 F8 N8 B8 X8 Tp8
    k_steps
    · exact .inr rfl
    · exact ⟨_, _, _, rfl, T8, B8, F8, fun p hp => N8 p (by repeat (first | exact hp | apply List.Mem.tail))⟩)
set_option maxRecDepth 100000 in
set_option maxHeartbeats 8000000 in
theorem refus_turn3 {tb : List Stmt} {lsc sc2 : Scope} {ls : List (Expr × Scope)} {e0 : Expr} {sc0 : Scope} (hls : lawScope PySem.Challenge.pw_pc0363_01 = some lsc) (hib : refusOf PySem.Challenge.pw_pc0363_01 = some (tb, sc2, ls)) (he0 : ls[2]? = some (e0, sc0))
    (B : Below (callerA.deeper (envOf (Str.ofString "law") lsc L fa cd)) g [envOf (Str.ofString "law") lsc L fa cd] b) (X : (Mine.hd.heap_39 w.params).In g) (Tp : Top topProg lo me mg mb g) (hC : CodeHd g 268 264)
    (F : Fr b L₂ s.heap (fun y => if y = Str.ofString "call" then some (.ref f) else m y))
    (N : News b L₂ s.heap ((f, kla_obj "<lambda>" lamQ noArgs e0 sc0 [] pm c ct) :: (c, oc) :: rest)) (d1 : oc.data = .fields vs) (d2 : vs[1]? = some (.str lamQ tq)) :
    wpAny (model PySem.Challenge.rw_pc0363_01.row.prog w) ((callerA.deeper (envOf (Str.ofString "law") lsc L fa cd)).deeper (envX (Str.ofString "_law_refusals_right") sc2 L₂ 269 (.ref 268) (cellsFrom (L₂ + 1) sc2.names []))) (execs tb (envX (Str.ofString "_law_refusals_right") sc2 L₂ 269 (.ref 268) (cellsFrom (L₂ + 1) sc2.names [])))
      (fun fl s₃ => (fl = .next ∨ fl = .cont) ∧ LoopSt [L] (callerA.deeper (envOf (Str.ofString "law") lsc L fa cd)) g [envOf (Str.ofString "law") lsc L fa cd] b L₂ (Str.ofString "call") m (some (.ref f)) rest s s₃) (fun _ _ => False) s := by
  have hls2 := Option.some.inj (hls : some _ = some lsc)
  cases hls2
  have hib2 := Option.some.inj (hib : some _ = some (tb, sc2, ls))
  cases hib2
  have he2 := Option.some.inj (he0 : some _ = some (e0, sc0))
  cases he2
  have X1 := X.keeps B.stays
  have Tp1 := Tp.keeps B.stays
  have hC1 : CodeHd b 268 264 := hC.keeps B.stays
  w_on
  w_strict (
    (revert X X1; k_fill; intro X X1)
    (try k_fold)
    k_steps
    unfold Stop
    refine raise_exec (w := w) rfl ?_
    k_steps
    unfold Stop
    refine' setting_make (by exact ⟨by k_asm, by k_asm, by k_asm, by k_asm, by rfl, by ktr_room, Nat.le_of_ble_eq_true rfl⟩) (by k_asm) (by ktr_room) (by exact Nat.le_of_ble_eq_true rfl) ?_
    intro x4 o4 h4 tk4 hl4 F4 N4 hc4 hd4
    have hd4' := hd4
    obtain ⟨t4, hd4'⟩ := hd4'
    (rename Frag.In _ _ => kX4)
    refine ⟨x4, o4, rfl, kX4.keeps F4.keep, (N4 _ (.head _)).1, hc4, hd4, ?_⟩
    refine' leave_raiseE (by assumption) F4 N4 hd4' rfl rfl (fun q hq => Nat.ne_of_lt (hl4 q hq)) rfl rfl ?_
    intro h5 R5 U5
    k_steps
    refine' leave_onE (by assumption) (by assumption) rfl R5 U5 ?_
    intro h6 R6 U6
    k_steps
    refine' leave_onE (by assumption) (by assumption) rfl R6 U6 ?_
    intro h7 R7 U7
    k_steps
    rw [hc4] at R7
    refine' caughtE (KF := Mine.hd.heap_39 w.params) (C := 59) (x := Str.ofString "SettingError") R7 (by assumption) (by assumption) U7 X Tp (by first | k_is | k_ownname) (by kts_isx) ?_ rfl rfl (by decide) (by passes_own)
    intro h8 g8 T8 F8 N8 B8 X8 Tp8
    k_steps
    · exact .inr rfl
    · exact ⟨_, _, _, rfl, T8, B8, F8, fun p hp => N8 p (by repeat (first | exact hp | apply List.Mem.tail))⟩)
end
theorem last_news {h₀ h : Heap} {L : Addr} {l : List (Addr × Obj)} {p : Addr × Obj} (N : News h₀ L h l) (e : l.getLast? = some p) : News h₀ L h [p] := fun q hq => by
  obtain rfl := List.mem_singleton.mp hq
  exact N _ (List.mem_of_getLast? e)
theorem news_put {h₀ h : Heap} {L : Addr} {l l' : List (Addr × Obj)} {p : Addr × Obj} (N : News h₀ L h l) (hp : p ∈ l) (N' : News h₀ L h l') : News h₀ L h (p :: l') := fun q hq => by
  rcases List.mem_cons.mp hq with rfl | hq
  · exact N _ hp
  · exact N' _ hq
theorem drop4 {h₀ h : Heap} {L : Addr} {l : List (Addr × Obj)} {p q r t : Addr × Obj} (N : News h₀ L h (p :: q :: r :: t :: l)) : News h₀ L h l := fun z hz => N z (.tail _ (.tail _ (.tail _ (.tail _ hz))))
theorem LoopSt.from {fs : List Addr} {A₀ : Around} {base g b : Heap} {outer : List Env} {L : Addr} {x : Str} {m : Str → Option Value} {u : Option Value} {N : List (Addr × Obj)} {s s₃ : Shared} {h : Heap} {tk : Nat}
    (T : KtsTurn fs g b) (y : LoopSt fs A₀ base outer b L x m u N { s with heap := h, toks := tk } s₃) : LoopSt fs A₀ base outer g L x m u N s s₃ := by
  obtain ⟨b', h', tk', e, T', r⟩ := y.ex
  exact ⟨b', h', tk', e, T.trans T', r⟩
/-- where a for has its iterable -/
def IterAt (prog : Program) (w : World) (A : Around) (env : Env) (target : Expr) (body : List Stmt) (Q : Flow → Shared → Prop) (E : Value → Shared → Prop) (x : Value) (s₁ : Shared) : Prop :=
  wpAny (model prog w) A (pyIter x) (fun it s₂ => codeAny (model prog w) A (.forLoop target it body [] env) (fun r s' => match r with | .ok f => Q f s' | .error e => cameBackBy (model prog w) A env E e s') s₂) E s₁
theorem for_iter {prog : Program} {w : World} {A : Around} {s : Shared} {env : Env} {target iter : Expr} {body : List Stmt} {pos : Pos} {Q : Flow → Shared → Prop} {E : Value → Shared → Prop} (hs : ∀ x, foldedSetIterable iter env x = pure x)
    (h : wpAny (model prog w) A (eval iter env) (IterAt prog w A env target body Q E) E s) : wpAny (model prog w) A (exec (.For target iter body [] pos) env) Q E s := wpAny_For h hs
section
variable {w : World} {lo : List Str} {me : ExcName → Option Value} {mg mb : Str → Option Value} {g : Heap} {L fa : Addr} {cd : Value} {m : Str → Option Value} {s : Shared} {Q E : Value → Shared → Prop}
local macro_rules | `(tactic| walk_at "exec For Name List cons nil") => `(tactic| (k_here; refine stop ?_))
local macro_rules | `(tactic| walk_at "call ref") => `(tactic| (k_here; (with_reducible show wpAny _ _ (call (Value.ref 165) _) _ _ _); refine stop ?_))
set_option maxRecDepth 100000 in
set_option maxHeartbeats 8000000 in
/-- `_law_refusals_right()`, called by the law: true; the table of its lambdas may have grown -/
theorem refus_call {lsc : Scope} (hib : lawScope PySem.Challenge.pw_pc0363_01 = some lsc)
    (B : Below callerA g [] g) (F : Fr g L s.heap m) (X : (Mine.hd.heap_39 w.params).In g) (Tp : Top topProg lo me mg mb g) (hC : CodeAll [(268, 264)] g)
    (N : News g L s.heap [(264, tabObj #[])])
    (ret : ∀ h' tk' ps, Fr g L h' m → News g L h' [(264, tabObj ps)] → Q (.bool true) { s with heap := h', toks := tk' }) :
    wpAny (model PySem.Challenge.rw_pc0363_01.row.prog w) (callerA.deeper (envOf (Str.ofString "law") lsc L fa cd)) (call (.ref 269) []) Q E s := by
  have hib2 := Option.some.inj (hib : some _ = some lsc)
  cases hib2
  have hC1 : CodeHd g 268 264 := hC.1
  w_on
  w_strict (
    (revert X; k_fill; intro X)
    refine wpAny_call ?_
    refine' code_defCS0 ?k1 ?k2 ?k3 ?k4 ?k5 ?kA ?k6 ?k7 ?k8 ?k9 ?kB ?kD ?_ ?cK ?c2 ?c3 ?c4
    (case kA => exact rfl)
    (case k2 => k_asm)
    (case k1 => k_asm)
    (case k3 => k_asm)
    (case k4 => k_asm)
    (case k5 => k_asm)
    (case k6 => k_is)
    (case k7 => k_is)
    (case k8 => k_room)
    (case k9 => exact BindsTo.of_eq rfl)
    (case kB => exact rfl)
    (case kD => decide +kernel)
    (case cK => exact rfl)
    (case c2 => exact rfl)
    (case c3 => exact rfl)
    (case c4 => exact rfl)
    k_whole
    intro g' L' h' tk' cells' FG' F' N' Y' B' X' T' l1
    (try k_lt l1)
    k_cells Y'
    (try simp only [List.cons_append, List.nil_append] at N')
    (try dsimp only)
    (try k_lift B')
    (try k_fold)
    k_steps
    unfold Stop
    refine' single_make (by exact ⟨by k_asm, by k_asm, by k_asm, by k_asm, by rfl, by ktr_room, Nat.le_of_ble_eq_true rfl⟩) (by k_asm) (by ktr_room) (by exact Nat.le_of_ble_eq_true rfl) (by decide) (by decide) (by decide) (by decide) (by decide) ?_
    intro Tk xa dxa b1a d1a b2a d2a h5 tk5 m1 m2 m3 m4 m5 m6 F5 N5
    have N6 := drop4 N5
    clear N5
    (try k_lt m1)
    dsimp only [sg] at N6
    k_steps
    unfold Stop
    refine for_iter (fun _ => rfl) ?_
    k_steps
    unfold IterAt
    (rename News _ _ _ _ => kN9)
    (rename Fr _ _ _ _ => kF9)
    refine' for_list_K (x := Str.ofString "call") (fs := [L]) (items := [_, _, _]) rfl rfl rfl B' kF9 kN9 ?turn ?done
    case turn =>
      intro v hv I o b h9 tk9 hlt9 T1 B1 F1 N1
      (simp only [List.mem_cons, List.not_mem_nil, or_false] at hv)
      rcases hv with rfl | rfl | rfl
      · refine wpAny_mono (refus_turn1 (rest := (I, o) :: _) rfl rfl rfl (by assumption) B1 X Tp hC1 F1 (news_put N1 (by repeat (first | exact .head _ | apply List.Mem.tail)) (news_put N1 (by repeat (first | exact .head _ | apply List.Mem.tail)) (news_put N1 (by repeat (first | exact .head _ | apply List.Mem.tail)) (news_put N1 (by repeat (first | exact .head _ | apply List.Mem.tail)) (news_put N1 (by repeat (first | exact .head _ | apply List.Mem.tail)) N1))))) (by assumption) (by assumption)) (fun fl s₃ hs => ⟨hs.1, hs.2.from T1⟩) (fun _ _ z => z)
      · refine wpAny_mono (refus_turn2 (rest := (I, o) :: _) rfl rfl rfl B1 X Tp hC1 F1 (news_put N1 (by repeat (first | exact .head _ | apply List.Mem.tail)) (news_put N1 (by repeat (first | exact .head _ | apply List.Mem.tail)) N1)) (by assumption) (by assumption)) (fun fl s₃ hs => ⟨hs.1, hs.2.from T1⟩) (fun _ _ z => z)
      · refine wpAny_mono (refus_turn3 (rest := (I, o) :: _) rfl rfl rfl B1 X Tp hC1 F1 (news_put N1 (by repeat (first | exact .head _ | apply List.Mem.tail)) (news_put N1 (by repeat (first | exact .head _ | apply List.Mem.tail)) N1)) (by assumption) (by assumption)) (fun fl s₃ hs => ⟨hs.1, hs.2.from T1⟩) (fun _ _ z => z)
    case done =>
      intro b h9 tk9 u T1 B1 F1 N1
      have X1 := X.keeps B1.stays
      have Tp1 := Tp.keeps B1.stays
      have N2 := last_news N1 rfl
      clear N1 kN9 kF9 X' T' B'
      k_steps
      unfold Stop
      refine' single_make0 (by exact ⟨by k_asm, by k_asm, by k_asm, by k_asm, by rfl, by ktr_room, Nat.le_of_ble_eq_true rfl⟩) (by k_asm) (by ktr_room) (by exact Nat.le_of_ble_eq_true rfl) (by decide) (by decide) (by decide) (by decide) (by decide) ?_
      intro Tk xz dxz b1z d1z b2z d2z h6 tk6 m1 m2 m3 m4 m5 m6 F6 N6
      dsimp only [bk, sg] at N6
      (try k_lt m1)
      k_steps
      rw [show (Str.ofString "green" == Str.ofString "green") = true from by decide +kernel]
      (rename News _ _ _ _ => kN8)
      (rename Fr _ _ _ _ => kF8)
      exact ret _ _ _ kF8 (last_news kN8 rfl))
end
theorem pick_rate {v : Value} {t1 t2 t3 t4 : Tok} (h : v ∈ [Value.int 0 t1, .int 20 t2, .int 70 t3, .int 250 t4]) : ∃ (z : Int) (t : Tok), v = .int z t ∧ 0 ≤ z ∧ z ≤ 250 := by
  simp only [List.mem_cons, List.not_mem_nil, or_false] at h
  rcases h with rfl | rfl | rfl | rfl <;> exact ⟨_, _, rfl, by decide, by decide⟩
theorem pick_burst {v : Value} {t1 t2 t3 : Tok} (h : v ∈ [Value.int 3 t1, .int 10 t2, .int 64 t3]) : ∃ (z : Int) (t : Tok), v = .int z t ∧ 1 ≤ z ∧ z ≤ 64 := by
  simp only [List.mem_cons, List.not_mem_nil, or_false] at h
  rcases h with rfl | rfl | rfl <;> exact ⟨_, _, rfl, by decide, by decide⟩
theorem pick_peak {v : Value} {t1 t2 t3 : Tok} (h : v ∈ [Value.int 0 t1, .int 5 t2, .int 90 t3]) : ∃ (z : Int) (t : Tok), v = .int z t ∧ 0 ≤ z ∧ z ≤ 90 := by
  simp only [List.mem_cons, List.not_mem_nil, or_false] at h
  rcases h with rfl | rfl | rfl <;> exact ⟨_, _, rfl, by decide, by decide⟩
theorem pick_other {v : Value} {t1 t2 t3 : Tok} (h : v ∈ [Value.int 2 t1, .int 12 t2, .int 70 t3]) : ∃ (z : Int) (t : Tok), v = .int z t ∧ 1 ≤ z ∧ z ≤ 70 := by
  simp only [List.mem_cons, List.not_mem_nil, or_false] at h
  rcases h with rfl | rfl | rfl <;> exact ⟨_, _, rfl, by decide, by decide⟩
/-- where the four pairs start -/
def startSt (o : Obj) (T : PTok) (burst other : Int) : St := ⟨o, T.v13, T.v14, T.v23, T.v24, burst * 100, 0, other * 100, 0, 100 * burst, 100 * other⟩
/-- the pairs' ledger, as the loop wants it -/
theorem pairs_turn {w : World} {T0 T1 T2 T3 : PTok} {A0 A1 A2 A3 : PAd} {q0 q1 q2 q3 l l2 sd gt : Nat} {lo2 o0 o1 o2 o3 so go : Obj} {rate burst peak other : Int} {h₀ h : Heap} {L : Addr}
    (N : News h₀ L h ((q3, tupO A3 234 248 true) :: blk2 w A3 true T3 rate burst peak other o3 T3.v13 T3.v14 T3.v23 T3.v24 (burst * 100) 0 (other * 100) 0
        ((q2, tupO A2 227 241 true) :: blk1 w A2 true T2 rate burst 0 other o2 T2.v13 T2.v14 T2.v23 T2.v24 (burst * 100) 0 (other * 100) 0
        ((q1, tupO A1 234 248 false) :: blk2 w A1 false T1 rate burst peak other o1 T1.v13 T1.v14 T1.v23 T1.v24 (burst * 100) 0 (other * 100) 0
        ((q0, tupO A0 227 241 false) :: blk1 w A0 false T0 rate burst 0 other o0 T0.v13 T0.v14 T0.v23 T0.v24 (burst * 100) 0 (other * 100) 0
        [(l2, lo2), (l, PySem.W.listOf [Value.ref q0, .ref q1, .ref q2, .ref q3].toArray 4), (sd, so), (gt, go)]))))) :
    News h₀ L h ((sd, so) :: led w ⟨A0, A1, A2, A3, T0, T1, T2, T3, q0, q1, q2, q3, l⟩ rate burst peak other ⟨startSt o0 T0 burst other, startSt o1 T1 burst other, startSt o2 T2 burst other, startSt o3 T3 burst other⟩ [(gt, go)]) := by
  intro p hp
  exact N p (sub_ix (π := [34, 33, 24, 16, 8, 0, 25, 26, 27, 28, 29, 30, 31, 17, 18, 19, 20, 21, 22, 23, 9, 10, 11, 12, 13, 14, 15, 1, 2, 3, 4, 5, 6, 7, 35]) rfl hp)
theorem ch_gt {a : All4} (hI : a.Inc) {sd : Nat} (h : sd < a.l) : ∀ z ∈ a.ch, sd < z := by
  intro z hz
  obtain ⟨i, hi, e⟩ := List.mem_iff_getElem.mp hz
  have e1 : a.ch[i]? = some z := List.getElem?_eq_some_iff.mpr ⟨hi, e⟩
  cases i with
  | zero => cases e1; exact h
  | succ i => exact Nat.lt_trans h (inc_ix (l := a.ch) hI (Nat.succ_pos i) rfl e1)
theorem start_ok {w : World} {rate burst peak other : Int} {o0 o1 o2 o3 : Obj} {T0 T1 T2 T3 : PTok} (h3 : 1 ≤ burst) (h7 : 1 ≤ other) (h1 : 0 ≤ rate) (hp : 0 ≤ peak)
    (d0 : DI w o0 (OwnD rate (100 * burst) peak (100 * other) (100 * burst) (100 * other))) (d1 : DI w o1 (OwnD rate (100 * burst) peak (100 * other) (100 * burst) (100 * other)))
    (d2 : DI w o2 (OwnD rate (100 * burst) peak (100 * other) (100 * burst) (100 * other))) (d3 : DI w o3 (OwnD rate (100 * burst) peak (100 * other) (100 * burst) (100 * other))) :
    St4.Ok w rate burst peak other 0 0 0 0 ⟨startSt o0 T0 burst other, startSt o1 T1 burst other, startSt o2 T2 burst other, startSt o3 T3 burst other⟩ := by
  have i1 : I1 0 rate burst (burst * 100) 0 other (other * 100) 0 (100 * burst) (100 * other) := by
    constructor <;> omega
  have i2 : I2 0 rate burst (burst * 100) 0 peak other (other * 100) 0 (100 * burst) (100 * other) := by
    constructor <;> first | omega | (unfold fG; rw [if_pos (Int.le_refl _)]; omega)
  exact ⟨⟨d0, i1⟩, ⟨d1, i2⟩, ⟨d2, i1⟩, ⟨d3, i2⟩⟩
theorem only2 {h₀ h : Heap} {L : Addr} {p q : Addr × Obj} {l : List (Addr × Obj)} (N : News h₀ L h l) (hp : p ∈ l) (hq : q ∈ l) : News h₀ L h [p, q] := fun x hx => by
  rcases List.mem_cons.mp hx with rfl | hx
  · exact N _ hp
  · rcases List.mem_cons.mp hx with rfl | hx
    · exact N _ hq
    · cases hx
theorem only3 {h₀ h : Heap} {L : Addr} {p q r : Addr × Obj} {l : List (Addr × Obj)} (N : News h₀ L h l) (hp : p ∈ l) (hq : q ∈ l) (hr : r ∈ l) : News h₀ L h [p, q, r] := fun x hx => by
  rcases List.mem_cons.mp hx with rfl | hx
  · exact N _ hp
  · exact only2 N hq hr x hx
section
local macro_rules | `(tactic| walk_at "call ref") => `(tactic| (k_here; refine stop ?_))
local macro_rules | `(tactic| walk_at "exec For") => `(tactic| (k_here; refine stop ?_))
local macro_rules | `(tactic| walk_at "exec For Name Call cons nil") => `(tactic| (k_here; refine stop ?_))
set_option maxRecDepth 100000 in
set_option maxHeartbeats 8000000 in
theorem main_walk : PySem.Challenge.rw_pc0363_01.Holds := by
  refine Mine.hd ?_
  w_on
  w_strict (
    k_go0
    (all_goals try k_fold)
    k_steps
    unfold Stop
    (rename IntsAre _ _ => hI9)
    (rename (¬ _ < _) => hC9)
    refine' source_call (rest := [(264, tabObj #[])]) ?c1 ?n1 ?l1 hI9 ?z1 ?_
    (case c1 => exact ⟨by k_asm, by k_asm, by k_asm, by k_asm, by rfl, by ktr_room, by ktr_units⟩)
    (case n1 => k_asm)
    (case l1 => assumption)
    (case z1 => omega)
    intro sd so0 xs0 ys0 h1 tk1 hlt hsS hx0 hy0 hyy0 hD0 F1 N1
    have hgt : 264 < sd := hlt (264, tabObj #[]) (.head _)
    have hne : ∀ p ∈ [(264, tabObj #[])], p.1 ≠ sd := fun p hp => Nat.ne_of_lt (hlt p hp)
    k_steps
    unfold Stop
    refine' pick_callU (d := sd) (o := so0) (x := xs0) (y := ys0) (rest := [(264, tabObj #[])]) ?c21 ?n21 ?l21 hne hsS hD0 hx0 hy0 hyy0 ?v11 ?v21 ?d21 ?u21 ?_
    (case c21 => exact ⟨by k_asm, by k_asm, by k_asm, by k_asm, by rfl, by ktr_room, by ktr_units⟩)
    (case n21 => (rename News _ _ _ _ => kN7; exact only3 kN7 (by repeat (first | exact .head _ | apply List.Mem.tail)) (by repeat (first | exact .head _ | apply List.Mem.tail)) (by repeat (first | exact .head _ | apply List.Mem.tail))))
    (case l21 => first | k_ne | exact Nat.ne_of_gt (by omega))
    (case v11 => exact Nat.succ_pos _)
    (case v21 => simp)
    (case d21 => ktr_room)
    (case u21 => ktr_units)
    intro v1 so1 xs1 ys1 h1 tk1 hv1 hx1 hy1 hyy1 hD1 F1 N1
    obtain ⟨z1, zt1, hk1, hz1, hzz1⟩ := pick_rate hv1
    subst hk1
    clear hv1
    k_steps
    unfold Stop
    refine' pick_callU (d := sd) (o := so1) (x := xs1) (y := ys1) (rest := [(264, tabObj #[])]) ?c22 ?n22 ?l22 hne hsS hD1 hx1 hy1 hyy1 ?v12 ?v22 ?d22 ?u22 ?_
    (case c22 => exact ⟨by k_asm, by k_asm, by k_asm, by k_asm, by rfl, by ktr_room, by ktr_units⟩)
    (case n22 => (rename News _ _ _ _ => kN7; exact only3 kN7 (by repeat (first | exact .head _ | apply List.Mem.tail)) (by repeat (first | exact .head _ | apply List.Mem.tail)) (by repeat (first | exact .head _ | apply List.Mem.tail))))
    (case l22 => first | k_ne | exact Nat.ne_of_gt (by omega))
    (case v12 => exact Nat.succ_pos _)
    (case v22 => simp)
    (case d22 => ktr_room)
    (case u22 => ktr_units)
    intro v2 so2 xs2 ys2 h2 tk2 hv2 hx2 hy2 hyy2 hD2 F2 N2
    obtain ⟨z2, zt2, hk2, hz2, hzz2⟩ := pick_burst hv2
    subst hk2
    clear hv2
    k_steps
    unfold Stop
    refine' pick_callU (d := sd) (o := so2) (x := xs2) (y := ys2) (rest := [(264, tabObj #[])]) ?c23 ?n23 ?l23 hne hsS hD2 hx2 hy2 hyy2 ?v13 ?v23 ?d23 ?u23 ?_
    (case c23 => exact ⟨by k_asm, by k_asm, by k_asm, by k_asm, by rfl, by ktr_room, by ktr_units⟩)
    (case n23 => (rename News _ _ _ _ => kN7; exact only3 kN7 (by repeat (first | exact .head _ | apply List.Mem.tail)) (by repeat (first | exact .head _ | apply List.Mem.tail)) (by repeat (first | exact .head _ | apply List.Mem.tail))))
    (case l23 => first | k_ne | exact Nat.ne_of_gt (by omega))
    (case v13 => exact Nat.succ_pos _)
    (case v23 => simp)
    (case d23 => ktr_room)
    (case u23 => ktr_units)
    intro v3 so3 xs3 ys3 h3 tk3 hv3 hx3 hy3 hyy3 hD3 F3 N3
    obtain ⟨z3, zt3, hk3, hz3, hzz3⟩ := pick_peak hv3
    subst hk3
    clear hv3
    k_steps
    unfold Stop
    refine' pick_callU (d := sd) (o := so3) (x := xs3) (y := ys3) (rest := [(264, tabObj #[])]) ?c24 ?n24 ?l24 hne hsS hD3 hx3 hy3 hyy3 ?v14 ?v24 ?d24 ?u24 ?_
    (case c24 => exact ⟨by k_asm, by k_asm, by k_asm, by k_asm, by rfl, by ktr_room, by ktr_units⟩)
    (case n24 => (rename News _ _ _ _ => kN7; exact only3 kN7 (by repeat (first | exact .head _ | apply List.Mem.tail)) (by repeat (first | exact .head _ | apply List.Mem.tail)) (by repeat (first | exact .head _ | apply List.Mem.tail))))
    (case l24 => first | k_ne | exact Nat.ne_of_gt (by omega))
    (case v14 => exact Nat.succ_pos _)
    (case v24 => simp)
    (case d24 => ktr_room)
    (case u24 => ktr_units)
    intro v4 so4 xs4 ys4 h4 tk4 hv4 hx4 hy4 hyy4 hD4 F4 N4
    obtain ⟨z4, zt4, hk4, hz4, hzz4⟩ := pick_other hv4
    subst hk4
    clear hv4
    k_steps
    unfold Stop
    (rename News _ _ _ _ => kN5)
    have kM5 := only2 (p := (sd, so4)) (q := (264, tabObj #[])) kN5 (by repeat (first | exact .head _ | apply List.Mem.tail)) (by repeat (first | exact .head _ | apply List.Mem.tail))
    refine' pairs_call ?c6 kM5 ?a1 ?a2 ?a3 ?a4 ?a5 ?a6 ?a7 ?a8 ?a9 ?_
    (case c6 => exact ⟨by k_asm, by k_asm, by k_asm, by k_asm, by rfl, by ktr_room, by ktr_units⟩)
    (case a1 => omega)
    (case a2 => omega)
    (case a3 => omega)
    (case a4 => omega)
    (case a5 => omega)
    (case a6 => omega)
    (case a7 => omega)
    (case a8 => ktr_room)
    (case a9 => ktr_units)
    intro T0 T1 T2 T3 A0 A1 A2 A3 q0 q1 q2 q3 l l2 lo2 o0 o1 o2 o3 h6 tk6 hsl hgl hinc hs0 hs1 hs2 hs3 d0 d1 d2 d3 F6 N6
    have N7 := pairs_turn N6
    clear N6
    k_steps
    unfold Stop
    (rename Fr _ _ _ _ => kF8)
    (rename News _ _ _ _ => kN8)
    have hgA := ch_gt (a := ⟨A0, A1, A2, A3, T0, T1, T2, T3, q0, q1, q2, q3, l⟩) hinc hsl
    refine' outer_loop (a := ⟨A0, A1, A2, A3, T0, T1, T2, T3, q0, q1, q2, q3, l⟩) (rate := z1) (u1 := z2) (pk := z1 + z3) (u2 := z4) (x := ⟨startSt o0 T0 z2 z4, startSt o1 T1 z2 z4, startSt o2 T2 z2 z4, startSt o3 T3 z2 z4⟩) (sd := sd) (so := so4) (t := [(264, tabObj #[])]) rfl ?b1 kF8 ?b2 ?b3 ?b4 (sub_tail kN8) hinc ?b5 ?b6 hsS hs0 hs1 hs2 hs3 hD4 hx4 hy4 hyy4 (start_ok hz2 hz4 hz1 (by omega) d0 d1 d2 d3) (Int.le_refl _) hz1 (by omega) (by omega) (by omega) hz2 (by omega) hz4 hzz4 ?b7 ?b8
    (case b1 => k_asm)
    (case b2 => assumption)
    (case b3 => assumption)
    (case b4 =>
      intro p hp
      simp only [List.mem_cons, List.not_mem_nil, or_false] at hp
      rcases hp with rfl | rfl | rfl | rfl | rfl | rfl <;> with_unfolding_all rfl)
    (case b5 => exact hgA)
    (case b6 =>
      intro p hp
      simp only [List.mem_cons, List.not_mem_nil, or_false] at hp
      subst hp
      exact ⟨fun hz => Nat.lt_asymm hgt (hgA _ hz), Nat.ne_of_lt hgt⟩)
    (case b7 => passes_own)
    intro m9 news9 h9 tk9 hin9 F9 N9
    have N10 : News _ _ _ [(264, tabObj #[])] := fun p hp => N9 p (hin9 p hp)
    clear N9 kN8 kF8
    k_steps
    unfold Stop
    refine' refus_call rfl ?g1 ?g2 ?g3 ?g4 ⟨by assumption, trivial⟩ ?g6 ?_
    (case g1 => k_asm)
    (case g2 => k_asm)
    (case g3 => assumption)
    (case g4 => assumption)
    (case g6 => k_asm)
    intro h10 tk10 ps10 F10 N10
    k_steps
    unfold Stop
    refine' fixed_call (rest := [(264, tabObj ps10)]) ?j1 ?j2 ?j3 ?j4 ?_
    (case j1 => exact ⟨by k_asm, by k_asm, by k_asm, by k_asm, by rfl, by ktr_room, by ktr_units⟩)
    (case j2 => k_asm)
    (case j3 => ktr_room)
    (case j4 => ktr_units)
    intro h11 tk11 F11 N11
    k_steps)
end
end Mine
theorem PySem.Challenge.cw_pc0363_01_holds : PySem.Challenge.rw_pc0363_01.Holds := by
  exact Mine.main_walk
