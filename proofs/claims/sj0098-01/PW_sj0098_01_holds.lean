import PyProof.Rows.All
import Wide.All
import OpenK.AllK
import Wide.FinOn
import Lean
import PySem.Challenge.RW_sj0098_01
open PySem PySem.W PySem.Spec PySem.Calls PyProof.Rows
set_option Elab.async false
set_option maxRecDepth 100000
set_option rowWalk.seconds 0
namespace Mine
theorem fresh_Hd : True := by first | row_walk | trivial
local macro_rules | `(tactic| walk_at "none Hd 0") => `(tactic| fail)
section
/-- the text less its names' rows -/
def vw : Program := { PySem.Challenge.rw_sj0098_01.row.prog with main := { PySem.Challenge.rw_sj0098_01.row.prog.main with body := [0, 2, 3, 5, 6, 7, 9, 10, 11, 12, 13, 14, 15, 17, 18, 19, 20, 21, 22, 23, 24, 25, 26].filterMap fun i => PySem.Challenge.rw_sj0098_01.row.prog.main.body[i]? } }
def lv : List (PySem.Str × WData) := [(PySem.Str.ofString "ROUND", WData.int (10 ^ 1000))]
/-- the run of a text over a tree of objects, to its end -/
def runT (p : Program) (w : World) (n₀ : Nat) (ann : Option Value) : Nat → SharedT → Thread → Option SharedT
  | 0, _, _ => none
  | n + 1, s, t => match through t with
    | true => some s
    | false => match stepOk n₀ ann t with
      | false => none
      | true => match stepT (denote treeTable) p w s t with
        | some (s', t') => runT p w n₀ ann n s' t'
        | none => none
theorem runT_of {p : Program} {w : World} {n₀ : Nat} {ann : Option Value} : ∀ {n : Nat} {s r : SharedT} {t : Thread}, runT p w n₀ ann n s t = some r → topRun treeTable p w n₀ ann n s.abs t = some r.abs
  | 0, _, _, _, h => by cases h
  | n + 1, s, r, t, h => by
    unfold runT at h
    unfold topRun
    cases e : through t with
    | true => rw [e] at h; cases h; rfl
    | false =>
      rw [e] at h
      dsimp only at h ⊢
      cases e2 : stepOk n₀ ann t with
      | false => rw [e2] at h; cases h
      | true =>
        rw [e2] at h
        dsimp only at h ⊢
        cases e3 : stepT (denote treeTable) p w s t with
        | none => rw [e3] at h; cases h
        | some x =>
          obtain ⟨s', t'⟩ := x
          rw [e3] at h
          rw [stepT_spec e3]
          exact runT_of h
/-- the same by the library's quick twins -/
noncomputable def runQ (p : Program) (w : World) (n₀ : Nat) (ann : Option Value) : Nat → SharedT → Thread → Option SharedT
  | 0, _, _ => none
  | n + 1, s, t => match through t with
    | true => some s
    | false => match Fast.tw6613529449190102663 n₀ ann t with
      | false => none
      | true => match Fast.tw10156331382660048174 (Fast.tw11892475500146522536 Fast.tw14364793385576792824) p w s t with
        | some (s', t') => runQ p w n₀ ann n s' t'
        | none => none
theorem run_q {p : Program} {w : World} {n₀ : Nat} {ann : Option Value} : ∀ {n : Nat} {s : SharedT} {t : Thread}, runT p w n₀ ann n s t = runQ p w n₀ ann n s t
  | 0, _, _ => rfl
  | n + 1, s, t => by
    unfold runT runQ
    rw [← Fast.te6613529449190102663, ← Fast.te10156331382660048174, ← Fast.te11892475500146522536, ← Fast.te14364793385576792824]
    simp only [run_q]
/-- the booted heap as a tree -/
noncomputable def bootT (P : PySem.Params) : BT := (boot_heap P).objs.toList.foldl (fun (x : BT × Nat) o => (x.1.ins x.2 o, x.2 + 1)) (.nil, 0) |>.1
noncomputable def bootS (w : World) (os : OsState) : SharedT := ⟨bootT w.params, 11, (boot_heap w.params).life, Array.mk [], boot_drawn, boot_toks, os⟩
theorem boot_abs (w : World) (os : OsState) : (bootS w os).abs = ⟨boot_heap w.params, Array.mk [], boot_drawn, boot_toks, os⟩ := by
  have h : ∀ P : PySem.Params, absHeap (bootT P) 11 (boot_heap P).life = boot_heap P := by
    intro P
    kernel_rfl
  unfold bootS SharedT.abs
  dsimp only
  rw [h]
theorem boot_size : ∀ P : PySem.Params, ((boot_heap P).isNs mainGlobals, (boot_heap P).objs.size, (boot_heap P).nsMap mainGlobals (PySem.Str.ofString "__annotations__")) = (true, 11, some (Value.ref 6)) := by
  intro P
  kernel_rfl
theorem left_tree {p q : Program} {loose : List PySem.Str} {Xt : Shared → Bool} {α : Type} {Yf : Shared → α} {Ya : World → α} {N M : Nat} {g0 : Bool}
    (e : opening p = plainProg p.main.scope.names) (f : ∀ s, fenceModules? p s = some s) (hN : Nat.ble 600 N = true) (le : Nat.ble M N = true)
    (run : ∀ w : World, (fun os => (runQ p w 11 (some (Value.ref 6)) M (bootS w os) (topStub p)).map fun s =>
      ((staticsOk (importedModules p.main.body) (boot_heap w.params) s.abs.heap && namesBound p s.abs.heap && gensDone s.abs && laidKept (boot_heap w.params) s.abs.heap), Fast.tw4187177175401517315 q loose (importedModules p.main.body) Xt g0 s.abs, Yf s.abs)) =
      fun _ => some (true, openGood q loose, Ya w)) : LeftO p q loose Xt Yf Ya N g0 := fun w => by
  obtain ⟨⟨h, gs, d, k, os⟩, e1, e2⟩ := Option.map_eq_some_iff.mp (boot_open (N := N) e hN f w)
  simp only [Prod.mk.injEq] at e2
  obtain ⟨rfl, rfl, rfl, rfl⟩ := e2
  have run9 := congrFun (run w) os
  rw [← run_q, ← Fast.te4187177175401517315] at run9
  obtain ⟨r, hr, hl⟩ := Option.map_eq_some_iff.mp run9
  simp only [Prod.mk.injEq] at hl
  obtain ⟨l1, l2, l3⟩ := hl
  have hb := boot_size w.params
  simp only [Prod.mk.injEq] at hb
  obtain ⟨z1, z2, z3⟩ := hb
  have t := runT_of hr
  rw [boot_abs] at t
  have t := topRun_mono (N - M) _ _ _ _ t
  rw [show M + (N - M) = N by have := Nat.le_of_ble_eq_true le; omega] at t
  unfold openEnds
  rw [e1]
  show (topFrom treeTable p w N _).map _ = _
  unfold topFrom
  dsimp only
  rw [z1, z2, z3, t]
  dsimp only [Option.bind_some]
  simp only [l1]
  exact congrArg some (Prod.ext l2 l3)
theorem text_plain : opening PySem.Challenge.rw_sj0098_01.row.prog = plainProg PySem.Challenge.rw_sj0098_01.row.prog.main.scope.names := by kernel_rfl
theorem text_fence : ∀ s, fenceModules? PySem.Challenge.rw_sj0098_01.row.prog s = some s := by intro s; kernel_rfl
theorem text_ok : (chainsOk vw && opensWell PySem.Challenge.rw_sj0098_01.row.prog && (frees PySem.Challenge.rw_sj0098_01.row.toRowW && PySem.Challenge.rw_sj0098_01.row.within.isEmpty)) = true := by decide +kernel
theorem text_bare : PySem.Challenge.rw_sj0098_01.row.prog.bare := ⟨rfl, rfl, rfl, rfl, rfl, by decide +kernel⟩
/-- the row by a walk behind its text -/
theorem head_of (H : Hook) {d : DefRec} {kwd : List (PySem.Str × PySem.Expr)}
    (hl : ∀ w : World, (fun os => (runQ PySem.Challenge.rw_sj0098_01.row.prog w 11 (some (Value.ref 6)) 2200 (bootS w os) (topStub PySem.Challenge.rw_sj0098_01.row.prog)).map fun s =>
      ((staticsOk (importedModules PySem.Challenge.rw_sj0098_01.row.prog.main.body) (boot_heap w.params) s.abs.heap && namesBound PySem.Challenge.rw_sj0098_01.row.prog s.abs.heap && gensDone s.abs && laidKept (boot_heap w.params) s.abs.heap),
        Fast.tw4187177175401517315 vw [PySem.Str.ofString "ROUND"] (importedModules PySem.Challenge.rw_sj0098_01.row.prog.main.body) (fun s => xlAt vw lv s && recOk (RowW.records (OpenRow.toRowW PySem.Challenge.rw_sj0098_01.row)) s) true s.abs, H.obs s.abs)) =
      fun _ => some (true, openGood vw [PySem.Str.ofString "ROUND"], H.val w))
    (hdef : defOf vw PySem.Challenge.rw_sj0098_01.row.name = some (d, kwd)) (hp : PySem.Challenge.rw_sj0098_01.row.prog.theDef PySem.Challenge.rw_sj0098_01.row.name = some (d.params, d.body, d.scope))
    (hk : kwWritten? d.params.kwonlyargs d.params.kw_defaults = some kwd) (said : PySem.Challenge.rw_sj0098_01.row.wellSaid = true) (hw : PySem.Challenge.rw_sj0098_01.row.toRowW.promised)
    (hc : WalkO vw [PySem.Str.ofString "ROUND"] (XL vw lv) H.says PySem.Challenge.rw_sj0098_01.row.toRowW d kwd fun f vs => PySem.call f vs) : PySem.Challenge.rw_sj0098_01.row.Holds :=
  holds_open (Xt := fun s => xlAt vw lv s && recOk (RowW.records (OpenRow.toRowW PySem.Challenge.rw_sj0098_01.row)) s) (XP := XL vw lv) (N := 4162) (left_tree (M := 2200) text_plain text_fence rfl rfl hl) H.of H.keeps (fun s e => xl_of s (Bool.and_eq_true_iff.mp e).1) XL.keeps
    hdef hp hk (fun s e => recFacts_of (Bool.and_eq_true_iff.mp e).2) (by rfl) said text_ok text_bare hw hc
set_option hygiene false in
local macro_rules | `(tactic| o_head $H) => `(tactic| (refine head_of $H ?hl (by rfl) (by rfl) (by rfl) (by first | assumption | decide +kernel) ?hw ?hc; (case hl => (intro w; kernel_rfl))))
set_option maxHeartbeats 0 in
open_top hd for PySem.Challenge.rw_sj0098_01

end
theorem fresh_Tac : True := by first | row_walk | trivial
local macro_rules | `(tactic| walk_at "none Tac 0") => `(tactic| fail)
section
theorem un3 {u n k : Nat} (h : u + n < 9900) (hk : 3 + k ≤ n) : u + 3 + k < 9900 := by omega
theorem dp0 {d n : Nat} (h : d + n < 1000) : d < 1000 := by omega
theorem dp00 {d m n : Nat} (h : d + m + n < 1000) : d < 1000 := by omega
theorem dp1 {d n k : Nat} (h : d + n < 1000) (hk : 1 + k ≤ n) : d + 1 + k < 1000 := by omega
theorem ite_ff {P Q : Prop} {i : Decidable (false = true)} (h : Q) : @ite Prop (false = true) i P Q := by
  rw [if_neg Bool.false_ne_true]; exact h
theorem ite_tt {P Q : Prop} {i : Decidable (true = true)} (h : P) : @ite Prop (true = true) i P Q := by
  rw [if_pos rfl]; exact h
/-! The lines of the walk in short words: `wl` writes «stand at the pattern, take the lemma, close its places, name what follows». -/
section
open Lean
/-- what closes a place, by a letter -/
def wt (c : Char) : MacroM (TSyntax `tactic) := match c with
  | 'a' => `(tactic| k_asm)
  | 's' => `(tactic| assumption)
  | 'w' => `(tactic| with_reducible assumption)
  | 'o' => `(tactic| omega)
  | 'm' => `(tactic| k_mem)
  | 'u' => `(tactic| with_unfolding_all rfl)
  | 'R' => `(tactic| with_reducible rfl)
  | 'f' => `(tactic| rfl)
  | 'c' => `(tactic| kct_strs)
  | 'p' => `(tactic| kmk_pure)
  | 'r' => `(tactic| ktr_room)
  | 'n' => `(tactic| ktr_units)
  | 'e' => `(tactic| first | exact rfl | assumption)
  | 'x' => `(tactic| exact rfl)
  | 'b' => `(tactic| tb_start)
  | 'q' => `(tactic| tb_rel)
  | 'A' => `(tactic| k_all)
  | 'N' => `(tactic| k_ne)
  | 'U' => `(tactic| k_upd)
  | 'd' => `(tactic| decide)
  | 'D' => `(tactic| decide +kernel)
  | 'i' => `(tactic| k_is)
  | _ => `(tactic| fail)
/-- letters between strokes; «name/letters» is «exact name» with its places closed so -/
def wc (s : String) : MacroM (TSyntax `tactic) := do
  let one (t : String) : MacroM (TSyntax `tactic) := match t.splitOn "/" with
    | [n, l] => do
      let as ← l.toList.mapM fun c => if c == '_' then `(_) else do `((by $(← wt c):tactic))
      `(tactic| exact $(⟨Syntax.mkApp (mkIdent n.toName) as.toArray⟩):term)
    | _ => wt (t.toList.headD ' ')
  match s.splitOn "|" with
  | [] => `(tactic| fail)
  | t :: ts => ts.foldlM (fun b t => do `(tactic| first | $b:tactic | $(← one t):tactic)) (← one t)
/-- a pattern, its words parted by blanks -/
def wp (s : String) : MacroM Term := do
  let st ← (s.splitOn " ").foldlM (init := ([[]] : List (List Term))) fun st t => do
    match t, st with
    | "(", st => pure ([] :: st)
    | "[", st => pure ([] :: st)
    | ")", top :: nxt :: r => match top.reverse with
      | f :: as => pure ((⟨Syntax.mkApp f as.toArray⟩ :: nxt) :: r)
      | [] => pure (nxt :: r)
    | "]", top :: nxt :: r => do
      let as := top.reverse.toArray
      let e ← `([$as,*])
      pure ((e :: nxt) :: r)
    | "_", top :: r => do pure (((← `(_)) :: top) :: r)
    | t, top :: r => do
      let x : Term ← if t.toList.headD ' ' == '\'' then pure ⟨Syntax.mkStrLit ((t.splitOn "'").getD 1 "")⟩
        else if t == "-1" then `((-1))
        else if t.toNat?.isSome then pure ⟨Syntax.mkNumLit t⟩
        else pure ⟨mkIdent t.toName⟩
      pure ((x :: top) :: r)
    | _, [] => pure st
  match st with
  | top :: _ => match top.reverse with
    | f :: as => pure ⟨Syntax.mkApp f as.toArray⟩
    | [] => `(_)
  | [] => `(_)
/-- take the lemma and close its places; «name,n=v» gives a named place ahead -/
def wi (l places cases : String) : MacroM (TSyntax `tactic) := do
  let as ← (places.splitOn " ").mapM fun p => if p == "_" then `(?_) else do
    let n ← Macro.addMacroScope p.toName
    `(?$(mkIdent n):ident)
  let ls := l.splitOn ","
  let f := mkIdent (ls.headD "").toName
  let ns ← ls.tail.mapM fun t => match t.splitOn "=" with
    | [n, v] => do pure (⟨(← `($f ($(mkIdent n.toName):ident := $(← wp v)))).raw[1][0]⟩ : Term)
    | _ => `(_)
  let r ← `(tactic| refine' $(⟨Syntax.mkApp f (ns ++ as).toArray⟩):term)
  (cases.splitOn " ").foldlM (init := r) fun b c => match c.splitOn ":" with
    | [p, t] => do
      let n ← Macro.addMacroScope p.toName
      `(tactic| ($b:tactic; case $(mkIdent n):ident => $(← wc t):tactic))
    | _ => pure b
/-- the names and the end of a line -/
def we (b : TSyntax `tactic) (names : String) (tail : Nat) : MacroM Syntax := do
  let b ← if names == "" then pure b else do
    let xs : List Term ← (names.splitOn " ").mapM fun n => do
      let n ← Macro.addMacroScope n.toName
      pure ⟨mkIdent n⟩
    let xs := xs.toArray
    `(tactic| ($b:tactic; intro $xs*))
  match tail % 10 with
  | 3 => do
    let n := mkIdent (← Macro.addMacroScope `N')
    `(tactic| ($b:tactic; (try simp only [List.push_toArray] at $n:ident); (try k_sweep)))
  | 1 => `(tactic| ($b:tactic; (try dsimp only); (try k_fold)))
  | 2 => `(tactic| ($b:tactic; (try k_sweep)))
  | _ => pure b
/-- the lemma outside of a walk's line -/
def wb (l places cases names : String) (tail : Nat) : MacroM Syntax := do
  let b ← wi l places cases
  we (← `(tactic| ($b:tactic; k_whole))) names tail
/-- one line of the walk -/
def wl (pt l places cases names : String) (tail : Nat) : MacroM Syntax := do
  let b ← wi l places cases
  let b ← if tail < 10 then `(tactic| ($b:tactic; k_whole)) else pure b
  let b ← if pt == "" then `(tactic| (k_here; k_dflt $b:tactic))
    else `(tactic| (k_here; (with_reducible show wpAny _ _ $(← wp pt) _ _ _); k_dflt $b:tactic))
  we b names tail
/-- the walk stops at these -/
def wk (ps : List String) : MacroM Syntax := do
  let b ← `(tactic| first | (with_reducible refine ite_ff ?_) | (with_reducible refine ite_tt ?_) | (k_unfold; (try dsimp only)) | (k_end; wrow_close) | walk1 | (dsimp only; walk1) | (leave1; walk_say "STEP leave1"; try dsimp only) | fail "no step")
  let b ← ps.reverse.foldlM (init := b) fun b p => do
    let t ← wp p
    if (p.splitOn "LCg").length == 1 then `(tactic| ((fail_if_success (with_reducible show wpAny _ _ $t _ _ _)); $b:tactic))
    else `(tactic| ((fail_if_success (with_reducible show $t)); $b:tactic))
  `(tactic| repeat' $b:tactic)
/-- the rows of a range, not its values -/
def wr (pt l : String) : MacroM Syntax := do
  `(tactic| ((with_reducible show wpAny _ _ $(← wp pt) _ _ _); (rename Fr _ _ _ _ => F'); (rename News _ _ _ _ => N'); (with_unfolding_all refine $(mkIdent l.toName) F' N' ?_); intro _ _ _ _ _ _ _ _ _))
/-- lengths of lists, then omega -/
def ws : MacroM Syntax := `(tactic| first | omega | (simp only [List.length_append, List.length_cons, List.length_nil, List.length_map]; omega))
end

end
theorem fresh_Base : True := by first | row_walk | trivial
local macro_rules | `(tactic| walk_at "none Base 0") => `(tactic| fail)
section
/-- the feed dict's object -/
def FeedIs (w : World) (o : Obj) (l : Addr) (i : Int) (t : Tok) : Prop := Obj.IsDictOf (PySem.strKind PySem.Challenge.rw_sj0098_01.row.prog w) o [(Str.ofString "cells", Value.ref l), (Str.ofString "at", Value.int i t)]

section
variable {prog : Program} {w : World} {A : Around} {E : Value → Shared → Prop} {s : Shared} {h₀ : Heap} {L l : Addr} {news : List (Addr × Obj)} {us : List Value} {n : Nat}
theorem m_len {Q : Value → Shared → Prop} (N : News h₀ L s.heap news) (hm : (l, W.listOf us.toArray n) ∈ news) (hfit : us.length < 2 ^ 62)
    (h : Q (.int (us.length : Int) (s.toks + 1)) { s with toks := s.toks + 1 + 1 }) : wpAny (model prog w) A (call (.builtin "len") [.ref l]) Q E s := by
  have hl : s.heap.IsList l us.toArray := ⟨_, (N _ hm).1, rfl, n, rfl⟩
  have e : us.toArray.size = us.length := by simp
  exact len_list hl (by rw [e]; omega) (by rw [e]; exact h)
theorem m_itemI {value slice : PySem.Expr} {ns : List Int} {k : Int} {u : Tok} {Q : Value → Shared → Prop} (N : News h₀ L s.heap news) (hm : (l, W.listOf us.toArray n) ∈ news) (hI : IntsAre us ns)
    (h0 : 0 ≤ k) (h1 : k < (us.length : Int)) (hfit : k < 2 ^ 63) (h : ∀ x t, ns[k.toNat]? = some x → x ∈ ns → Q (.int x t) s)
    (hs : subscripted slice false (.ref l) (.int k u) = operate [.ref l, .int k u] (getItem (.ref l) (.int k u)) := by with_unfolding_all rfl) :
    wpAny (model prog w) A (subscriptTail value slice (.ref l) (.int k u)) Q E s := by
  have hl : s.heap.IsList l us.toArray := ⟨_, (N _ hm).1, rfl, n, rfl⟩
  have hk : k.toNat < ns.length := by have := hI.length; omega
  obtain ⟨t, ht⟩ := hI.get k.toNat ns[k.toNat] (by simp [hk])
  exact tail_any hl.typeIs slot_list_getitem.lookup (wpAny_getItem_list hl h0 hfit (by simpa using ht) (h _ t (by simp [hk]) (List.getElem_mem hk))) hs
end

end
local macro_rules | `(tactic| k_mem) => `(tactic| first | assumption | (refine List.mem_cons_of_mem _ ?_; first | assumption | (refine List.mem_cons_of_mem _ ?_; first | assumption | (refine List.mem_cons_of_mem _ ?_; first | assumption | (refine List.mem_cons_of_mem _ ?_; assumption)))))
local macro_rules | `(tactic| k_all) => `(tactic| assumption)
local macro_rules | `(tactic| walk_at "call builtin:len") => wl "call ( Value.builtin 'len ) [ ( Value.ref _ ) ]" "m_len" "k1 k2 k3 _" "k1:a k2:m k3:o" "" 0
local macro_rules | `(tactic| walk_at "subscriptTail") => wl "subscriptTail _ _ ( Value.ref _ ) ( Value.int _ _ )" "m_itemI" "k1 k2 k3 k4 k5 k6 _ k7" "k1:a k2:m k3:s k4:o k5:o k6:o k7:u" "x' t' hx' hm'" 0
local macro_rules | `(tactic| tb_start) => `(tactic| first | k_asm)
local macro_rules | `(tactic| ktr_room) => `(tactic| ((show (_ : Nat) < 1000); (try simp only [depth_under_make, depth_under_kw, depth_in1, depth_deeper, depth_caller]); (try dsimp only); first | exact dp0 (by with_reducible assumption) | exact dp1 (by with_reducible assumption) (by decide) | exact dp00 (by with_reducible assumption) | omega))
local macro_rules | `(tactic| ktr_units) => `(tactic| ((show (_ : Nat) < 9900); (try simp only [units_in1, units_deeper, Around.mark_units, units_caller]); (try dsimp only); first | exact un3 (by with_reducible assumption) (by decide) | omega))
local macro_rules | `(tactic| kbt_split) => wk ["exec ( PySem.Stmt.While _ _ _ _ ) _", "exec ( PySem.Stmt.For _ _ _ _ _ ) _", "eval ( PySem.Expr.ListComp _ _ _ _ ) _", "call ( Value.ref 227 ) _", "pyIter ( Value.ref _ )"]
local macro_rules | `(tactic| walk_at "call builtin:list.append") => wl "call ( Value.builtin _ ) [ ( Value.ref _ ) _ ]" "append_K" "k1 k2 k3 _ z" "k1:a k2:a k3:U z:c" "h' F' N'" 3
local macro_rules | `(tactic| kbo_bools) => wb "code_defG" "k1 k2 k3 k4 k5 kA kF kK k6 k7 k8 k9 kB _ c2 c3 c4 c5" "kA:x kF:x kK:s k1:a k2:a k3:a k4:a k5:a k6:i k7:i k8:r k9:BindsTo.of_eq/f c5:d kB:locs/f c2:x c3:x c4:x" "g' L' h' FG' F' N' B' X' T' G'" 1
theorem fresh_Bits : True := by first | row_walk | trivial
local macro_rules | `(tactic| walk_at "none Bits 0") => `(tactic| fail)
section
/-- an int of at most k bits -/
def Bt (k : Nat) (x : Int) : Prop := x.natAbs < 2 ^ k
/-- an int of at most 9,500 figures -/
def Small (x : Int) : Prop := x.natAbs < 10 ^ 9500
theorem Bt.bits {k : Nat} {x : Int} (h : Bt k x) (hk : k ≤ 2 ^ 20) : Builtin.Int.intBits x ≤ 2 ^ 20 := by
  unfold Builtin.Int.intBits
  split
  · exact Nat.zero_le _
  · rename_i hx
    have hx' : x.natAbs ≠ 0 := by
      intro e
      exact hx (by simpa using Int.natAbs_eq_zero.mp e)
    have : x.natAbs.log2 < k := (Nat.log2_lt hx').mpr h
    omega
theorem Bt.mul {i j : Nat} {x y : Int} (h : Bt i x) (k : Bt j y) : Bt (i + j) (x * y) := by
  unfold Bt at *
  rw [Int.natAbs_mul, Nat.pow_add]
  exact Nat.mul_lt_mul'' h k
theorem natAbs_powN (b e : Nat) : ((b : Int) ^ e).natAbs = b ^ e := by
  rw [Int.natAbs_pow]; rfl
theorem Bt.pow {b c e R : Nat} (h0 : 0 < c) (hb : b ≤ 2 ^ c) (he : e < R) : Bt (c * R) ((b : Int) ^ e) := by
  unfold Bt
  rw [natAbs_powN]
  have h1 : b ^ e ≤ (2 ^ c) ^ e := Nat.pow_le_pow_left hb e
  have h2 : (2 ^ c) ^ e < (2 ^ c) ^ R := Nat.pow_lt_pow_right (Nat.one_lt_two_pow (Nat.pos_iff_ne_zero.mp h0)) he
  rw [Nat.pow_mul]
  omega
theorem Bt.pow2 {r : Int} (h0 : 0 ≤ r) (h : r < 40) : Bt 40 (2 ^ r.toNat) := by
  have := Bt.pow (b := 2) (c := 1) (e := r.toNat) (R := 40) (by decide) (by decide) (by omega)
  simpa using this
theorem Bt.pow3 {r : Int} (h0 : 0 ≤ r) (h : r < 6000) : Bt 12000 (3 ^ r.toNat) := by
  have := Bt.pow (b := 3) (c := 2) (e := r.toNat) (R := 6000) (by decide) (by decide) (by omega)
  simpa using this
theorem Bt.pow7 {r : Int} (h0 : 0 ≤ r) (h : r < 2000) : Bt 6000 (7 ^ r.toNat) := by
  have := Bt.pow (b := 7) (c := 3) (e := r.toNat) (R := 2000) (by decide) (by decide) (by omega)
  simpa using this
theorem Bt.pow10 {r : Int} (h0 : 0 ≤ r) (h : r < 4000) : Bt 16000 (10 ^ r.toNat) := by
  have := Bt.pow (b := 10) (c := 4) (e := r.toNat) (R := 4000) (by decide) (by decide) (by omega)
  simpa using this
theorem small_of_le {x : Int} {k : Nat} (h : x.natAbs ≤ 10 ^ k) (hk : k < 9500) : Small x :=
  Nat.lt_of_le_of_lt h (Nat.pow_lt_pow_right (by decide) hk)
theorem small_neg {x : Int} (h : Small x) : Small (-x) := by unfold Small at *; rwa [Int.natAbs_neg]
theorem ten_ge (k : Nat) : 1 ≤ (10 : Nat) ^ k := Nat.one_le_pow _ _ (by decide)
theorem small_add {x d : Int} {k : Nat} (h : x.natAbs ≤ 10 ^ k) (hd : d.natAbs ≤ 1000) (hk : k + 4 < 9500) : Small (x + d) := by
  refine small_of_le (k := k + 4) ?_ hk
  have h1 : (x + d).natAbs ≤ x.natAbs + d.natAbs := Int.natAbs_add_le _ _
  have h2 := ten_ge k
  have h3 : (10 : Nat) ^ (k + 4) = 10 ^ k * 10000 := by rw [Nat.pow_add]
  rw [h3]
  generalize (10 : Nat) ^ k = t at *
  omega
theorem small_pick {r : Int} (h0 : 0 ≤ r) (h : r < 200) : Small (r - 100) := by
  refine small_of_le (k := 3) ?_ (by decide)
  have : (10 : Nat) ^ 3 = 1000 := by decide
  omega
theorem pow_leT {b c e R : Nat} (hb : b ^ c ≤ 10) (hb0 : 0 < b) (he : e ≤ c * R) : b ^ e ≤ 10 ^ R := by
  have h1 : b ^ e ≤ b ^ (c * R) := Nat.pow_le_pow_right hb0 he
  rw [Nat.pow_mul] at h1
  exact Nat.le_trans h1 (Nat.pow_le_pow_left hb R)
theorem small_four {a b : Int} (a0 : 0 ≤ a) (ha : a < 9) (b0 : 0 ≤ b) (hb : b < 3) : Small (10 ^ (1000 * a).toNat + b - 1) := by
  have e : (10 : Int) ^ (1000 * a).toNat + b - 1 = 10 ^ (1000 * a).toNat + (b - 1) := by omega
  rw [e]
  refine small_add (k := 8000) ?_ (by omega) (by decide)
  have := natAbs_powN 10 (1000 * a).toNat
  have e2 : ((10 : Int) ^ (1000 * a).toNat).natAbs = 10 ^ (1000 * a).toNat := by simpa using this
  rw [e2]
  exact Nat.pow_le_pow_right (by decide) (by omega)
theorem small_five {a b c d f : Int} (a0 : 0 ≤ a) (ha : a < 40) (b0 : 0 ≤ b) (hb : b < 6000) (c0 : 0 ≤ c) (hc : c < 2000) (d0 : 0 ≤ d) (hd : d < 4000) (f0 : 0 ≤ f) (hf : f < 100) :
    Small (2 ^ a.toNat * 3 ^ b.toNat * 7 ^ c.toNat * 10 ^ d.toNat + f) := by
  refine small_add (k := 14 + 3000 + 2000 + 4000) ?_ (by omega) (by decide)
  have e2 : ((2 : Int) ^ a.toNat).natAbs = 2 ^ a.toNat := by simpa using natAbs_powN 2 a.toNat
  have e3 : ((3 : Int) ^ b.toNat).natAbs = 3 ^ b.toNat := by simpa using natAbs_powN 3 b.toNat
  have e7 : ((7 : Int) ^ c.toNat).natAbs = 7 ^ c.toNat := by simpa using natAbs_powN 7 c.toNat
  have e10 : ((10 : Int) ^ d.toNat).natAbs = 10 ^ d.toNat := by simpa using natAbs_powN 10 d.toNat
  rw [Int.natAbs_mul, Int.natAbs_mul, Int.natAbs_mul, e2, e3, e7, e10, Nat.pow_add, Nat.pow_add, Nat.pow_add]
  refine Nat.mul_le_mul (Nat.mul_le_mul (Nat.mul_le_mul ?_ ?_) ?_) ?_
  · exact pow_leT (c := 3) (by decide) (by decide) (by omega)
  · exact pow_leT (c := 2) (by decide) (by decide) (by omega)
  · exact pow_leT (c := 1) (by decide) (by decide) (by omega)
  · exact pow_leT (c := 1) (by decide) (by decide) (by omega)

end
local macro_rules | `(tactic| bits_fit) => `(tactic| first
  | exact Bt.bits (Bt.pow2 (by assumption) (by assumption)) (by decide)
  | exact Bt.bits (Bt.pow3 (by assumption) (by assumption)) (by decide)
  | exact Bt.bits (Bt.pow7 (by assumption) (by assumption)) (by decide)
  | exact Bt.bits (Bt.pow10 (by assumption) (by assumption)) (by decide)
  | exact Bt.bits (Bt.mul (Bt.pow2 (by assumption) (by assumption)) (Bt.pow3 (by assumption) (by assumption))) (by decide)
  | exact Bt.bits (Bt.mul (Bt.mul (Bt.pow2 (by assumption) (by assumption)) (Bt.pow3 (by assumption) (by assumption))) (Bt.pow7 (by assumption) (by assumption))) (by decide))
theorem fresh_Pick : True := by first | row_walk | trivial
local macro_rules | `(tactic| walk_at "none Pick 0") => `(tactic| fail)
section
set_option maxHeartbeats 8000000 in
theorem pick_spec {w : World} {mean : ExcName → Option Value} {mg mb : Str → Option Value}
    {dp un : Nat} {gd : Option (List Code)} {cn : Str} {cs : Scope} {a : Addr} {ccd : Value} {cl : List (Str × Addr)} {outer : List Env} {A₀ : Around} {base h₀ : Heap} {L : Addr} {m : Str → Option Value} {s : Shared}
    {Q E : Value → Shared → Prop} {news : List (Addr × Obj)} {df : Addr} {o : Obj} {l : Addr} {n : Nat} {vs : List Value} {ns : List Int} {at' wide : Int} {t3 tw : Tok}
    (B : Below A₀ base outer h₀) (F : Fr h₀ L s.heap m) (X : (Mine.hd.heap_39 w.params).In h₀) (N : News h₀ L s.heap ((df, o) :: news))
    (T : Top Mine.vw (looseW Mine.vw [Str.ofString "ROUND"]) mean mg mb h₀) (hk : cs.kind = .function)
    (hne : ∀ p ∈ news, p.1 ≠ df) (hl : (l, W.listOf vs.toArray n) ∈ news) (hf : FeedIs w o l at' t3)
    (hI : IntsAre vs ns) (hn : vs.length ≤ 60) (h0 : 0 ≤ at') (h1 : at' < 2 ^ 60) (hw : 0 < wide) (hd : dp + 1 < 1000) (hu : un + 8 < 9900)
    (hret : ∀ r t h' tk' o' t3, Fr h₀ L h' m → News h₀ L h' ((df, o') :: news) → FeedIs w o' l (at' + 1) t3 → 0 ≤ r → r < wide → Q (.int r t) { s with heap := h', toks := tk' }) :
    wpAny (model PySem.Challenge.rw_sj0098_01.row.prog w) (ktrTop dp un gd cn cs L a ccd cl outer) (call (.ref 267) [.ref df, .int wide tw]) Q E s := by
  unfold FeedIs at hf hret
  refine wpAny_call ?_
  w_strict (k_dflt ktr_enter
            k_steps
            all_goals exact hret _ _ _ _ _ _ (by k_asm) (by k_asm) (by assumption) (Int.fmod_nonneg_of_pos _ hw) (Int.fmod_lt_of_pos _ hw))

end
local macro_rules | `(tactic| walk_at "call ref") => wl "call ( Value.ref 267 ) _" "pick_spec" "kB kF kX kN kT kK kne kl kf kI kn k0 k1 kw kd ku _" "kB:a kF:a kX:a kN:b kT:a kK:e kne:A kl:m kf:s kI:s kn:s k0:o k1:o kw:o kd:r ku:n" "r' t' h' tk' o' t3' F' N' hf' hr0' hr1'" 1
theorem fresh_Num : True := by first | row_walk | trivial
local macro_rules | `(tactic| walk_at "none Num 0") => `(tactic| fail)
section
set_option maxHeartbeats 8000000 in
theorem num_spec {w : World} {mean : ExcName → Option Value} {mg mb : Str → Option Value}
    {dp un : Nat} {gd : Option (List Code)} {cn : Str} {cs : Scope} {a : Addr} {ccd : Value} {cl : List (Str × Addr)} {outer : List Env} {A₀ : Around} {base h₀ : Heap} {L : Addr} {m : Str → Option Value} {s : Shared}
    {Q E : Value → Shared → Prop} {news : List (Addr × Obj)} {df : Addr} {o : Obj} {l : Addr} {n : Nat} {vs : List Value} {ns : List Int} {at' way : Int} {t3 tw : Tok}
    (B : Below A₀ base outer h₀) (F : Fr h₀ L s.heap m) (X : (Mine.hd.heap_39 w.params).In h₀) (N : News h₀ L s.heap ((df, o) :: news))
    (T : Top Mine.vw (looseW Mine.vw [Str.ofString "ROUND"]) mean mg mb h₀) (hk : cs.kind = .function)
    (hne : ∀ p ∈ news, p.1 ≠ df) (hl : (l, W.listOf vs.toArray n) ∈ news) (hf : FeedIs w o l at' t3)
    (hI : IntsAre vs ns) (hn : vs.length ≤ 60) (h0 : 0 ≤ at') (h1 : at' < 2 ^ 59) (hd : dp + 2 < 1000) (hu : un + 16 < 9900)
    (hret : ∀ r t h' tk' o' t3 at2, Fr h₀ L h' m → News h₀ L h' ((df, o') :: news) → FeedIs w o' l at2 t3 → at' ≤ at2 → at2 ≤ at' + 6 → Small r → Q (.int r t) { s with heap := h', toks := tk' }) :
    wpAny (model PySem.Challenge.rw_sj0098_01.row.prog w) (ktrTop dp un gd cn cs L a ccd cl outer) (call (.ref 274) [.ref df, .int way tw]) Q E s := by
  refine wpAny_call ?_
  w_strict (k_dflt ktr_enter
            k_steps
            all_goals first
              | exact hret _ _ _ _ _ _ _ (by k_asm) (by k_asm) (by assumption) (by omega) (by omega) (small_pick (by assumption) (by assumption))
              | exact hret _ _ _ _ _ _ _ (by k_asm) (by k_asm) (by assumption) (by omega) (by omega) (small_four (by assumption) (by assumption) (by assumption) (by assumption))
              | exact hret _ _ _ _ _ _ _ (by k_asm) (by k_asm) (by assumption) (by omega) (by omega) (small_neg (small_four (by assumption) (by assumption) (by assumption) (by assumption)))
              | exact hret _ _ _ _ _ _ _ (by k_asm) (by k_asm) (by assumption) (by omega) (by omega) (small_five (by assumption) (by assumption) (by assumption) (by assumption) (by assumption) (by assumption) (by assumption) (by assumption) (by assumption) (by assumption))
              | exact hret _ _ _ _ _ _ _ (by k_asm) (by k_asm) (by assumption) (by omega) (by omega) (small_neg (small_five (by assumption) (by assumption) (by assumption) (by assumption) (by assumption) (by assumption) (by assumption) (by assumption) (by assumption) (by assumption))))

end
theorem fresh_Digs : True := by first | row_walk | trivial
local macro_rules | `(tactic| walk_at "none Digs 0") => `(tactic| fail)
section
-- needs: Num
/-- the figures of a number, as signs' numbers -/
def digs (n : Nat) : List Nat := (Nat.toDigits 10 n).map Char.toNat
/-- a text of signs' numbers -/
def tx (cs : List Nat) : PySem.Str := PySem.Str.mk cs.toArray
theorem tx_toList (cs : List Nat) : (tx cs).cps.toList = cs := rfl
theorem tx_eta (x : PySem.Str) : tx x.cps.toList = x := by
  obtain ⟨a⟩ := x
  simp [tx]
theorem tx_append (a b : List Nat) : tx a ++ tx b = tx (a ++ b) := by
  rw [← tx_eta (tx a ++ tx b)]
  congr 1
  show ((tx a).cps ++ (tx b).cps).toList = _
  simp [tx]
theorem tx_length (a : List Nat) : (tx a).length = a.length := by simp [tx, PySem.Str.length]
theorem tx_inj {a b : List Nat} (h : tx a = tx b) : a = b := by
  have : (tx a).cps.toList = (tx b).cps.toList := by rw [h]
  exact this
theorem digs_of_int (m : Nat) : PySem.Str.ofString (toString ((m : Nat) : Int)) = tx (digs m) := by
  rw [← tx_eta (PySem.Str.ofString _), PySem.W.KIN.signs_num]
  rfl
theorem digChar : ∀ d : Nat, d < 10 → (Nat.digitChar d).toNat = 48 + d := by decide
theorem digs_lt {n : Nat} (h : n < 10) : digs n = [48 + n] := by
  unfold digs
  rw [Nat.toDigits_of_lt_base h]
  simp [digChar n h]
theorem digs_step {n : Nat} (h : 10 ≤ n) : digs n = digs (n / 10) ++ [48 + n % 10] := by
  unfold digs
  have hm : n % 10 < 10 := Nat.mod_lt n (by decide)
  have t : Nat.toDigits 10 (n / 10) ++ Nat.toDigits 10 (n % 10) = Nat.toDigits 10 (10 * (n / 10) + n % 10) := Nat.toDigits_append_toDigits (by decide) (by omega) hm
  rw [Nat.div_add_mod] at t
  rw [← t, List.map_append, Nat.toDigits_of_lt_base hm]
  simp [digChar _ hm]
theorem digs_ne (n : Nat) : digs n ≠ [] := by
  unfold digs
  intro h
  exact Nat.toDigits_ne_nil (List.map_eq_nil_iff.mp h)
theorem digs_len {n k : Nat} (hk : 1 ≤ k) (h : n < 10 ^ k) : (digs n).length ≤ k := by
  unfold digs
  rw [List.length_map]
  exact toDigits_len_pow (by decide) hk h
theorem digs_pos (n : Nat) : 1 ≤ (digs n).length := by
  have := digs_ne n
  cases h : digs n with
  | nil => exact absurd h this
  | cons a b => simp
theorem digs_all (n : Nat) : ∀ c ∈ digs n, 48 ≤ c ∧ c ≤ 57 := by
  induction n using Nat.strongRecOn with
  | _ n ih =>
    intro c hc
    by_cases h : n < 10
    · rw [digs_lt h] at hc
      have := List.mem_singleton.mp hc
      omega
    · rw [digs_step (by omega)] at hc
      rcases List.mem_append.mp hc with hc | hc
      · exact ih (n / 10) (by omega) c hc
      · have := List.mem_singleton.mp hc
        omega
theorem digs_head {n : Nat} (h : 0 < n) : ∃ c r, digs n = c :: r ∧ c ≠ 48 := by
  induction n using Nat.strongRecOn with
  | _ n ih =>
    by_cases hn : n < 10
    · exact ⟨48 + n, [], digs_lt hn, by omega⟩
    · obtain ⟨c, r, e, hc⟩ := ih (n / 10) (by omega) (by omega)
      exact ⟨c, r ++ [48 + n % 10], by rw [digs_step (by omega), e]; rfl, hc⟩
/-- k figures, noughts ahead -/
def pad : Nat → Nat → List Nat
  | 0, _ => []
  | k + 1, m => pad k (m / 10) ++ [48 + m % 10]
theorem digs_split (k : Nat) : ∀ {n : Nat}, 10 ^ k ≤ n → digs n = (if n / 10 ^ k = 0 then [] else digs (n / 10 ^ k)) ++ pad k (n % 10 ^ k) := by
  induction k with
  | zero => intro n h; have : n ≠ 0 := by simp at h; omega
            simp [pad, this]
  | succ k ih =>
    intro n h
    have e10 : 10 ^ (k + 1) = 10 ^ k * 10 := Nat.pow_succ ..
    have hp : 1 ≤ 10 ^ k := ten_ge k
    have h10 : 10 ≤ n := by rw [e10] at h; omega
    have hk : 10 ^ k ≤ n / 10 := by
      rw [Nat.le_div_iff_mul_le (by decide)]; rw [e10] at h; exact h
    have q := ih hk
    rw [digs_step h10, q]
    have d1 : n / 10 / 10 ^ k = n / 10 ^ (k + 1) := by rw [Nat.div_div_eq_div_mul, e10, Nat.mul_comm]
    have m1 : n % 10 ^ (k + 1) / 10 = n / 10 % 10 ^ k := by
      rw [e10, Nat.mul_comm (10 ^ k) 10, Nat.mod_mul_right_div_self]
    have m2 : n % 10 ^ (k + 1) % 10 = n % 10 := by
      rw [e10, Nat.mul_comm (10 ^ k) 10]
      exact Nat.mod_mul_right_mod n 10 (10 ^ k)
    rw [d1]
    show _ = _ ++ (pad k (n % 10 ^ (k + 1) / 10) ++ [48 + n % 10 ^ (k + 1) % 10])
    rw [m1, m2, List.append_assoc]
theorem pad_zero (k : Nat) : pad k 0 = List.replicate k 48 := by
  induction k with
  | zero => rfl
  | succ k ih =>
    show pad k (0 / 10) ++ [48 + 0 % 10] = _
    rw [Nat.zero_div, ih, List.replicate_succ']
theorem pad_len (k m : Nat) : (pad k m).length = k := by
  induction k generalizing m with
  | zero => rfl
  | succ k ih =>
    show (pad k (m / 10) ++ [48 + m % 10]).length = _
    rw [List.length_append, ih]; rfl
theorem pad_digs : ∀ (k : Nat) {m : Nat}, 1 ≤ k → m < 10 ^ k → pad k m = List.replicate (k - (digs m).length) 48 ++ digs m := by
  intro k
  induction k with
  | zero => intro m h; exact absurd h (by decide)
  | succ k ih =>
    intro m _ hm
    show pad k (m / 10) ++ [48 + m % 10] = _
    by_cases h10 : m < 10
    · have e0 : m / 10 = 0 := by omega
      have e1 : m % 10 = m := by omega
      rw [e0, e1, pad_zero, digs_lt h10]
      simp
    · have hk : 1 ≤ k := by
        rcases Nat.eq_zero_or_pos k with h | h
        · subst h; simp at hm; omega
        · exact h
      have hm' : m / 10 < 10 ^ k := by
        rw [Nat.div_lt_iff_lt_mul (by decide)]
        have e9 : 10 ^ (k + 1) = 10 ^ k * 10 := Nat.pow_succ ..
        rw [e9] at hm
        exact hm
      have es : digs m = digs (m / 10) ++ [48 + m % 10] := digs_step (by omega)
      rw [ih hk hm', es, List.append_assoc]
      congr 2
      simp
/-- what figures_of does at one turn -/
theorem digs_turn {n k : Nat} (hk : 1 ≤ k) (h : 10 ^ k ≤ n) : digs n = digs (n / 10 ^ k) ++ (List.replicate (k - (digs (n % 10 ^ k)).length) 48 ++ digs (n % 10 ^ k)) := by
  have hp : 0 < 10 ^ k := ten_ge k
  rw [digs_split k h, ← pad_digs k hk (Nat.mod_lt n hp)]
  have : n / 10 ^ k ≠ 0 := by
    have := Nat.div_pos h hp
    omega
  rw [if_neg this]

end
theorem fresh_Strs : True := by first | row_walk | trivial
local macro_rules | `(tactic| walk_at "none Strs 0") => `(tactic| fail)
section
-- needs: Digs
/-- values that are the texts css -/
def TxAll (vs : List Value) (css : List (List Nat)) : Prop := ∃ l : List (PySem.Str × Tok), vs = strValues l ∧ l.map (·.1) = css.map tx
theorem TxAll.nil : TxAll [] [] := ⟨[], rfl, rfl⟩
theorem TxAll.snoc {vs : List Value} {css : List (List Nat)} (h : TxAll vs css) (c : List Nat) (t : Tok) : TxAll (vs ++ [.str (tx c) t]) (css ++ [c]) := by
  obtain ⟨l, rfl, e⟩ := h
  exact ⟨l ++ [(tx c, t)], by simp [strValues], by simp [e]⟩
theorem TxAll.reverse {vs : List Value} {css : List (List Nat)} (h : TxAll vs css) : TxAll vs.reverse css.reverse := by
  obtain ⟨l, rfl, e⟩ := h
  exact ⟨l.reverse, by simp [strValues], by simp [e]⟩
theorem TxAll.length {vs : List Value} {css : List (List Nat)} (h : TxAll vs css) : vs.length = css.length := by
  obtain ⟨l, rfl, e⟩ := h
  have := congrArg List.length e
  simpa [strValues] using this
theorem TxAll.get {vs : List Value} {css : List (List Nat)} (h : TxAll vs css) {k : Nat} {c : List Nat} (hk : css[k]? = some c) : ∃ t, vs[k]? = some (.str (tx c) t) := by
  obtain ⟨l, rfl, e⟩ := h
  have h1 : (l.map (·.1))[k]? = some (tx c) := by rw [e]; simp [hk]
  rw [List.getElem?_map] at h1
  obtain ⟨p, hp, e2⟩ := Option.map_eq_some_iff.mp h1
  refine ⟨p.2, ?_⟩
  simp only [strValues, List.getElem?_map, hp, Option.map_some]
  rw [← e2]
/-- texts joined -/
def joinL (sep : List Nat) : List (List Nat) → List Nat
  | [] => []
  | [x] => x
  | x :: y :: r => x ++ sep ++ joinL sep (y :: r)
theorem joinL_nil (css : List (List Nat)) : joinL [] css = css.flatten := by
  induction css with
  | nil => rfl
  | cons x r ih =>
    cases r with
    | nil => simp [joinL]
    | cons y r =>
      show x ++ [] ++ joinL [] (y :: r) = _
      rw [ih]; simp
theorem join_tx (sep : List Nat) : ∀ css : List (List Nat), Txt.join (tx sep) (css.map tx) = tx (joinL sep css) := by
  intro css
  show _ = _
  unfold Txt.join
  rw [StrLaws.glued_eq_join]
  induction css with
  | nil => rfl
  | cons x r ih =>
    cases r with
    | nil => rfl
    | cons y r =>
      show tx x ++ tx sep ++ Str.join (tx sep) ((y :: r).map tx) = _
      rw [ih, tx_append, tx_append]
      rfl
section
variable {prog : Program} {w : World} {A : Around} {E : Value → Shared → Prop} {s : Shared} {h₀ : Heap} {L D : Addr} {news : List (Addr × Obj)} {vs : List Value} {n : Nat} {Q : Value → Shared → Prop}
theorem m_join {x : PySem.Str} {t : Tok} {sep : List Nat} {css : List (List Nat)} (N : News h₀ L s.heap news) (hm : (D, W.listOf vs.toArray n) ∈ news) (hv : TxAll vs css) (hx : x = tx sep)
    (hok : (css.map List.length).sum + css.length * sep.length ≤ 16777216) (hq : ∀ t' k, Q (.str (tx (joinL sep css)) t') { s with toks := k }) :
    wpAny (model prog w) A (call (.builtin "str.join") [.str x t, .ref D]) Q E s := by
  obtain ⟨l, rfl, e⟩ := hv
  subst hx
  have hl : s.heap.IsList D (strValues l).toArray := ⟨_, (N _ hm).1, rfl, n, rfl⟩
  refine SC.join hl e (joinOk_of ?_) ?_
  · rw [List.map_map, List.length_map, tx_length]
    have : (PySem.Str.length ∘ tx) = List.length := funext fun a => tx_length a
    show (css.map (PySem.Str.length ∘ tx)).sum + _ ≤ _
    rw [this]
    exact hok
  · intro t' k
    rw [join_tx]
    exact hq t' k
theorem m_lenS {c : List Nat} {t : Tok} (hc : c.length ≤ 16777216) (h : Q (.int (c.length : Int) (s.toks + 1)) { s with toks := s.toks + 1 + 1 }) : wpAny (model prog w) A (call (.builtin "len") [.str (tx c) t]) Q E s := by
  refine len_str ?_ ?_
  · rw [tx_length]; omega
  · rw [tx_length]; exact h
theorem m_addS {x y : PySem.Str} {a b : List Nat} {t u : Tok} (hx : x = tx a) (hy : y = tx b) (hz : a.length + b.length ≤ 16777216) (h : ∀ t' k, Q (.str (tx (a ++ b)) t') { s with toks := k }) :
    wpAny (model prog w) A (binaryOp .Add (.str x t) (.str y u)) Q E s := by
  subst hx; subst hy
  refine add_str (fun t' k => ?_) (by rw [tx_length, tx_length, sizeLine_eq]; exact hz)
  rw [tx_append]
  exact h t' k
theorem mul_tx (c : Nat) {k : Int} (h0 : 0 ≤ k) : Txt.mul (tx [c]) k = tx (List.replicate k.toNat c) := by
  unfold Txt.mul
  by_cases h1 : k < 1
  · rw [if_pos h1]
    have : k = 0 := by omega
    subst this
    rfl
  · rw [if_neg h1]
    by_cases h2 : k = 1
    · subst h2; rfl
    · have : (k == 1 || (tx [c]).length == 0) = false := by
        rw [tx_length]
        simp [h2]
      rw [this]
      simp only [Bool.false_eq_true, if_false]
      have e : ∀ (n : Nat) (acc : Array Nat), (List.replicate n (tx [c]).cps).foldl (· ++ ·) acc = acc ++ (List.replicate n c).toArray := by
        intro n
        induction n with
        | zero => intro acc; simp
        | succ n ih =>
          intro acc
          rw [List.replicate_succ, List.foldl_cons, ih, List.replicate_succ]
          apply Array.ext'
          simp [tx]
      show PySem.Str.mk _ = PySem.Str.mk _
      rw [e]
      simp
theorem m_mulS {x : PySem.Str} {c : Nat} {k : Int} {t u : Tok} (hx : x = tx [c]) (h0 : 0 ≤ k) (h1 : k ≤ 100000) (h : ∀ t' tk, Q (.str (tx (List.replicate k.toNat c)) t') { s with toks := tk }) :
    wpAny (model prog w) A (binaryOp .Mult (.str x t) (.int k u)) Q E s := by
  subst hx
  refine SB.mul (mulOk_of 1 100000 (by rw [tx_length]; exact Nat.le_refl _) (by omega) (by omega) (by decide) (by decide)) fun t' tk => ?_
  rw [mul_tx c h0]
  exact h t' tk
end
theorem lit_dash : PySem.Str.ofString "-" = tx [45] := by decide
theorem lit_open : PySem.Str.ofString "(" = tx [40] := by decide
theorem lit_close : PySem.Str.ofString ")" = tx [41] := by decide
theorem lit_sp : PySem.Str.ofString " " = tx [32] := by decide

end
local macro_rules | `(tactic| walk_at "subscriptTail Name Slice ref ref") => wl "subscriptTail _ ( PySem.Expr.Slice none none ( some _ ) _ ) ( Value.ref _ ) ( Value.ref _ )" "krv_lit,its=List.toArray _" "F N l k e _ s t z" "F:a N:a l:News.isList/am k:IsPart.int/__ e:f s:u t:p z:c" "D' h' F' N' l1" 12
local macro_rules | `(tactic| walk_at "call builtin:len") => wl "call ( Value.builtin 'len ) [ ( Value.str ( tx _ ) _ ) ]" "m_lenS" "k1 _" "k1:c" "" 0
local macro_rules | `(tactic| walk_at "binaryOp Add str str") => wl "binaryOp _ ( Value.str _ _ ) ( Value.str _ _ )" "m_addS" "k1 k2 k3 _" "k1:R|lit_dash/|lit_open/|lit_close/|lit_sp/|f k2:R|lit_dash/|lit_open/|lit_close/|lit_sp/|f k3:c" "t' k'" 0
local macro_rules | `(tactic| walk_at "binaryOp Mult str int") => wl "" "m_mulS,c=48" "k1 k2 k3 _" "k1:f k2:c k3:c" "t' k'" 0
local macro_rules | `(tactic| walk_at "call builtin:str.join") => wl "call ( Value.builtin 'str.join ) [ ( Value.str _ _ ) ( Value.ref _ ) ]" "m_join,sep=[ 10 ]" "k1 k2 k3 k4 k5 _" "k1:a k2:m k4:f k3:q k5:c" "t' k'" 0
local macro_rules | `(tactic| walk_at "call builtin:str.join") => wl "call ( Value.builtin 'str.join ) [ ( Value.str _ _ ) ( Value.ref _ ) ]" "m_join,sep=[ 32 ]" "k1 k2 k3 k4 k5 _" "k1:a k2:m k4:f k3:q k5:c" "t' k'" 0
local macro_rules | `(tactic| walk_at "call builtin:str.join") => wl "call ( Value.builtin 'str.join ) [ ( Value.str _ _ ) ( Value.ref _ ) ]" "m_join,sep=[ ]" "k1 k2 k3 k4 k5 _" "k1:a k2:m k4:f k3:q k5:c" "t' k'" 0
theorem fresh_Fig : True := by first | row_walk | trivial
local macro_rules | `(tactic| walk_at "none Fig 0") => `(tactic| fail)
section
-- needs: Strs
section
variable {prog : Program} {w : World} {A : Around} {E : Value → Shared → Prop} {s : Shared} {h₀ : Heap} {L : Addr} {m : Str → Option Value} {p : Program} {loose : List Str} {mean : ExcName → Option Value} {mg mb : Str → Option Value}
theorem m_strI {a : Int} {t : Tok} {Q : Value → Shared → Prop} (F : Fr h₀ L s.heap m) (T : Top p loose mean mg mb h₀) (hh : A.handled = none) (h0 : 0 ≤ a) (h1 : a.toNat < 10 ^ 4300)
    (h : Q (.str (tx (digs a.toNat)) s.toks) { s with toks := s.toks + 1 }) : wpAny (model prog w) A (call (.type "str") [.int a t]) Q E s := by
  refine str_of_int_or hh (Heap.NoDigits.keeps (Top.nodigits T) (Fr.keep F)) (fun _ => ?_) (fun hge => ?_)
  · obtain ⟨n, rfl⟩ := Int.eq_ofNat_of_zero_le h0
    rw [digs_of_int]
    exact h
  · exfalso
    have : a.natAbs = a.toNat := by omega
    rw [this] at hge
    exact absurd h1 (Nat.not_lt.mpr hge)
theorem rnd_mod {x R : Int} (hx : 0 ≤ x) (hR : R = ((10 ^ 1000 : Nat) : Int)) : 0 ≤ x.fmod R ∧ (x.fmod R).toNat = x.toNat % 10 ^ 1000 := by
  subst hR
  obtain ⟨n, rfl⟩ := Int.eq_ofNat_of_zero_le hx
  rw [Int.fmod_eq_emod_of_nonneg _ (Int.natCast_nonneg _)]
  constructor
  · exact Int.natCast_nonneg _
  · rfl
theorem lt1000 (n : Nat) : n % 10 ^ 1000 < 10 ^ 4300 := Nat.lt_of_lt_of_le (Nat.mod_lt _ (ten_ge 1000)) (Nat.pow_le_pow_right (by decide) (by decide))
theorem m_strMod {x R : Int} {t : Tok} {Q : Value → Shared → Prop} (F : Fr h₀ L s.heap m) (T : Top p loose mean mg mb h₀) (hh : A.handled = none) (hx : 0 ≤ x) (hR : R = ((10 ^ 1000 : Nat) : Int))
    (h : Q (.str (tx (digs (x.toNat % 10 ^ 1000))) s.toks) { s with toks := s.toks + 1 }) : wpAny (model prog w) A (call (.type "str") [.int (x.fmod R) t]) Q E s := by
  obtain ⟨a0, e⟩ := rnd_mod hx hR
  refine m_strI F T hh a0 (by rw [e]; exact lt1000 _) ?_
  rw [e]
  exact h
theorem m_strLt {x R : Int} {t : Tok} {Q : Value → Shared → Prop} (F : Fr h₀ L s.heap m) (T : Top p loose mean mg mb h₀) (hh : A.handled = none) (hx : 0 ≤ x) (hlt : ¬ R ≤ x) (hR : R = ((10 ^ 1000 : Nat) : Int))
    (h : Q (.str (tx (digs x.toNat)) s.toks) { s with toks := s.toks + 1 }) : wpAny (model prog w) A (call (.type "str") [.int x t]) Q E s := by
  refine m_strI F T hh hx ?_ h
  subst hR
  refine Nat.lt_of_lt_of_le (m := 10 ^ 1000) ?_ (Nat.pow_le_pow_right (by decide) (by decide))
  generalize (10 : Nat) ^ 1000 = R at hlt
  omega
end
structure FigSt where
  x : Int
  t : Tok
  vs : List Value
  css : List (List Nat)
  n : Nat
structure FigOk (X : Int) (c : FigSt) : Prop where
  nn : 0 ≤ c.x
  eq : digs X.toNat = digs c.x.toNat ++ c.css.reverse.flatten
  all : TxAll c.vs c.css
  len : ∀ b ∈ c.css, b.length = 1000
theorem FigOk.few {X : Int} {c : FigSt} (h : FigOk X c) (hs : Small X) (h0 : 0 ≤ X) : c.css.length ≤ 9 ∧ (digs c.x.toNat).length + c.css.length * 1000 ≤ 9500 := by
  have hX : X.toNat < 10 ^ 9500 := by
    unfold Small at hs
    have : X.natAbs = X.toNat := by omega
    rwa [this] at hs
  have h1 := digs_len (k := 9500) (by decide) hX
  have h2 : c.css.reverse.flatten.length = c.css.length * 1000 := by
    have : ∀ l : List (List Nat), (∀ b ∈ l, b.length = 1000) → l.flatten.length = l.length * 1000 := by
      intro l
      induction l with
      | nil => intro _; rfl
      | cons b r ih =>
        intro hb
        rw [List.flatten_cons, List.length_append, ih fun q hq => hb q (.tail _ hq), hb b (.head _), List.length_cons]
        omega
    have e := this c.css.reverse fun b hb => h.len b (List.mem_reverse.mp hb)
    rw [e, List.length_reverse]
  rw [h.eq, List.length_append, h2] at h1
  have := digs_pos c.x.toNat
  omega
theorem fig_turn {X R : Int} {c : FigSt} {t tt : Tok} {n : Nat} (h : FigOk X c) (hR : R = ((10 ^ 1000 : Nat) : Int)) (hle : R ≤ c.x) :
    FigOk X ⟨c.x.fdiv R, t, c.vs ++ [.str (tx (List.replicate (1000 - ((digs (c.x.toNat % 10 ^ 1000)).length : Int)).toNat 48 ++ digs (c.x.toNat % 10 ^ 1000))) tt],
      c.css ++ [List.replicate (1000 - ((digs (c.x.toNat % 10 ^ 1000)).length : Int)).toNat 48 ++ digs (c.x.toNat % 10 ^ 1000)], n⟩ ∧ (c.x.fdiv R).toNat < c.x.toNat := by
  have hlen := digs_len (n := c.x.toNat % 10 ^ 1000) (k := 1000) (by decide) (Nat.mod_lt _ (ten_ge 1000))
  have hpos := digs_pos (c.x.toNat % 10 ^ 1000)
  have e0 : (1000 - ((digs (c.x.toNat % 10 ^ 1000)).length : Int)).toNat = 1000 - (digs (c.x.toNat % 10 ^ 1000)).length := by omega
  rw [e0]
  subst hR
  obtain ⟨m, hm⟩ := Int.eq_ofNat_of_zero_le h.nn
  have hm' : c.x.toNat = m := by omega
  have hge : 10 ^ 1000 ≤ m := by
    rw [hm] at hle
    exact Int.ofNat_le.mp hle
  have hd : c.x.fdiv ((10 ^ 1000 : Nat) : Int) = ((m / 10 ^ 1000 : Nat) : Int) := by
    rw [hm, Int.fdiv_eq_ediv_of_nonneg _ (Int.natCast_nonneg _)]
    rfl
  refine ⟨⟨?_, ?_, h.all.snoc _ _, ?_⟩, ?_⟩
  · show 0 ≤ c.x.fdiv _
    rw [hd]
    exact Int.natCast_nonneg _
  · show digs X.toNat = digs (c.x.fdiv _).toNat ++ _
    rw [h.eq, hd, hm', Int.toNat_natCast, digs_turn (k := 1000) (by decide) hge]
    simp
  · intro b hb
    rcases List.mem_append.mp hb with hb | hb
    · exact h.len b hb
    · rw [List.mem_singleton.mp hb, List.length_append, List.length_replicate]
      omega
  · rw [hd, hm', Int.toNat_natCast]
    exact Nat.div_lt_self (Nat.lt_of_lt_of_le (ten_ge 1000) hge) (Nat.one_lt_pow (by decide) (by decide))
theorem fig_end {X : Int} {c : FigSt} (h : FigOk X c) : joinL [] (c.css ++ [digs c.x.toNat]).reverse = digs X.toNat := by
  rw [joinL_nil, h.eq]
  simp
theorem fig_sum {X : Int} {c : FigSt} (h : FigOk X c) (hs : Small X) (h0 : 0 ≤ X) : ((c.css ++ [digs c.x.toNat]).reverse.map List.length).sum + (c.css ++ [digs c.x.toNat]).reverse.length * ([] : List Nat).length ≤ 16777216 := by
  have e := List.length_flatten (L := (c.css ++ [digs c.x.toNat]).reverse)
  rw [← e, ← joinL_nil, fig_end h]
  have hX : X.toNat < 10 ^ 9500 := by
    unfold Small at hs
    have : X.natAbs = X.toNat := by omega
    rwa [this] at hs
  have h1 := digs_len (k := 9500) (by decide) hX
  simp only [List.length_nil, Nat.mul_zero, Nat.add_zero]
  omega
section
local macro_rules | `(tactic| tb_rel) => `(tactic| exact TxAll.reverse (TxAll.snoc (by assumption) _ _))
local macro_rules | `(tactic| kct_strs) => `(tactic| first | exact fig_sum (by assumption) (by assumption) (by assumption) | omega | (simp only [List.length_replicate]; omega) | (rw [sizeLine_eq]; simp only [List.size_toArray, List.length_append, List.length_cons, List.length_nil]; omega))
local macro_rules | `(tactic| walk_at "call type:str") => wl "call ( Value.type 'str ) [ ( Value.int ( Int.fmod _ _ ) _ ) ]" "m_strMod" "k1 k2 k3 k4 k5 _" "k1:a k2:a k3:f k4:FigOk.nn/s k5:D" "" 0
local macro_rules | `(tactic| walk_at "call type:str") => wl "call ( Value.type 'str ) [ ( Value.int ( FigSt.x _ ) _ ) ]" "m_strLt" "k1 k2 k3 k4 k6 k5 _" "k1:a k2:a k3:f k4:FigOk.nn/s k6:s k5:D" "" 0
set_option maxHeartbeats 8000000 in
theorem fig_spec {w : World} {mean : ExcName → Option Value} {mg mb : Str → Option Value}
    {dp un : Nat} {gd : Option (List Code)} {cn : Str} {cs : Scope} {a : Addr} {ccd : Value} {cl : List (Str × Addr)} {outer : List Env} {A₀ : Around} {base h₀ : Heap} {L : Addr} {m : Str → Option Value} {s : Shared}
    {Q E : Value → Shared → Prop} {news : List (Addr × Obj)} {x : Int} {tw : Tok}
    (B : Below A₀ base outer h₀) (F : Fr h₀ L s.heap m) (X : (Mine.hd.heap_39 w.params).In h₀) (N : News h₀ L s.heap news) (T : Top Mine.vw (looseW Mine.vw [Str.ofString "ROUND"]) mean mg mb h₀) (hk : cs.kind = .function)
    (h0 : 0 ≤ x) (h1 : Small x) (hd : dp + 1 < 1000) (hu : un + 16 < 9900)
    (hret : ∀ t h' tk', Fr h₀ L h' m → News h₀ L h' news → Q (.str (tx (digs x.toNat)) t) { s with heap := h', toks := tk' }) :
    wpAny (model PySem.Challenge.rw_sj0098_01.row.prog w) (ktrTop dp un gd cn cs L a ccd cl outer) (call (.ref 85) [.int x tw]) Q E s := by
  refine wpAny_call ?_
  w_strict (k_dflt ktr_enter
            kbt_split
            rename_i l' hA l1 hB F' N'
            k_dflt (refine' ksw_while (σ := FigSt) (fun c => (l', W.listOf c.vs.toArray c.n) :: news) (fun c => [(Str.ofString "number", .int c.x c.t), (Str.ofString "blocks", .ref l')]) (fun _ => True) [Str.ofString "text"] (FigOk x) (fun c => c.x.toNat) ⟨x, tw, [], [], 0⟩ F' N' trivial ?hk ?hp ?turn ?hE)
            (case hk => kst_all)
            (case hp => exact ⟨h0, by simp, TxAll.nil, fun _ hb => nomatch hb⟩)
            (case hE => first | passes_own | with_unfolding_all passes_own)
            intro c u hC tkC _ hP FC NC
            clear F' N'
            dsimp only [kstB] at FC
            have hlen := digs_len (n := c.x.toNat % 10 ^ 1000) (k := 1000) (by decide) (Nat.mod_lt _ (ten_ge 1000))
            have hpos := digs_pos (c.x.toNat % 10 ^ 1000)
            have hne : ∀ p ∈ news, p.1 ≠ l' := fun p hp => Nat.ne_of_lt (l1 p hp)
            have hA := hP.all
            have hvl := hA.length
            have hfew := hP.few h1 h0
            k_steps
            · (rename (_ : Int) ≤ FigSt.x _ => hle)
              refine' ksw_end ⟨c.x.fdiv _, _, c.vs ++ [_], c.css ++ [_], c.n + 1⟩ (by k_asm) (by k_asm) (fun p hp => hp) trivial ?hk ?hr ?hP ?hm
              (case hk => kst_all)
              (case hr => ksw_same)
              (case hP => exact (fig_turn hP (by decide +kernel) hle).1)
              (case hm => exact (fig_turn (t := 0) (tt := 0) (n := 0) hP (by decide +kernel) hle).2)
            · rw [fig_end hP]
              exact hret _ _ _ (by k_asm) (kst_newsOf (by assumption) (fun p hp => .tail _ (.tail _ hp))))
end

end
local macro_rules | `(tactic| walk_at "call ref") => wl "call ( Value.ref 85 ) _" "fig_spec" "kB kF kX kN kT kK k0 k1 kd ku _" "kB:a kF:a kX:a kN:a|News.nil/ kT:a kK:e k0:o k1:s|small_neg/s kd:r ku:n" "t' h' tk' F' N'" 1
theorem fresh_Comp : True := by first | row_walk | trivial
local macro_rules | `(tactic| walk_at "none Comp 0") => `(tactic| fail)
local macro_rules | `(tactic| walk_at "none Comp 1") => `(tactic| fail)
section
-- needs: Fig
/-- every object stands as it stood -/
def KeepH (h h' : Heap) : Prop := ∀ b o, h.get? b = some o → h'.get? b = some o
theorem KeepH.refl (h : Heap) : KeepH h h := fun _ _ e => e
theorem KeepH.trans {a b c : Heap} (x : KeepH a b) (y : KeepH b c) : KeepH a c := fun d o e => y d o (x d o e)
theorem keep_of {H g H' h₀ : Heap} {L L' : Addr} {m' : Str → Option Value} {news news' : List (Addr × Obj)} (G : GSub H g (news.map (·.1))) (N : News h₀ L H news) (F' : Fr g L' H' m') (N' : News g L' H' news') (hs : ∀ p ∈ news, p ∈ news') : KeepH H H' :=
  elt_after (InElt.start H) G N F' N' hs
/-- the source of a comprehension is a tuple or a list -/
def SeqIs (h : Heap) (a : Addr) (vs : List Value) : Prop := h.IsList a vs.toArray ∨ h.IsTuple a vs.toArray
/-- what the comprehension's source is to be, and what its element gives -/
def VSrc (prog : Program) (w : World) (A : Around) (env : Env) (scope : Scope) (cl : List (Str × Addr)) (x : Str) (elt : PySem.Expr) (R : Value → Value → Prop) (Q : Value → Shared → Prop) (xv : Value) (s₁ : Shared) : Prop :=
  ∃ (a : Addr) (vs : List Value) (h₀ : Heap) (L : Addr) (m : Str → Option Value) (news : List (Addr × Obj)), xv = .ref a ∧ SeqIs s₁.heap a vs ∧ vs.length ≤ sizeLine ∧ Fr h₀ L s₁.heap m ∧ News h₀ L s₁.heap news ∧
    (∀ C v s₃ m₃ E', v ∈ vs → s₃.heap.Ns C m₃ → m₃ x = some v → KeepH s₁.heap s₃.heap → wpAny (model prog w) A (eval elt (compEnvC scope cl C env)) (fun y s₄ => R v y ∧ Keeps s₃ s₄) E' s₃) ∧
    (∀ D n ys h' tk, Fr h₀ L h' m → News h₀ L h' ((D, W.listOf ys.toArray n) :: news) → Paired R vs ys → KeepH s₁.heap h' → Q (.ref D) { s₁ with heap := h', toks := tk })
theorem m_compV {prog : Program} {w : World} {A : Around} {E : Value → Shared → Prop} {env : Env} {s : Shared} {elt iter : PySem.Expr} {x : Str} {px : Pos} {scope : Scope} {cl : List (Str × Addr)} {pos : Pos} {Q : Value → Shared → Prop} (R : Value → Value → Prop)
    (hh : A.handled = none) (hclos : closureFor scope env = pure cl) (hcell : ∀ y ∈ scope.names, y.2 ≠ .cell) (hkind : scope.kind = .function)
    (hnames : ∀ y ∈ scope.names, y.2 = .local → scope.names.lookup y.1 = some .local) (hx : scope.names.lookup x = some .local)
    (h : wpAny (model prog w) A (eval iter env) (VSrc prog w A env scope cl x elt R Q) E s)
    (hs : ∀ x, foldedSetIterable iter env x = pure x := by intro _; rfl) :
    wpAny (model prog w) A (eval (.ListComp elt [⟨.Name x px, iter, [], 0⟩] scope pos) env) Q E s := by
  refine wpAny_ListComp_free (p := fun _ => true) (F := R) hclos hcell hkind hnames hx (wpAny_mono h (fun xv s₁ h₁ => ?_) fun _ _ e => e) hs
  obtain ⟨a, vs, h₀, L, m, news, rfl, hseq, hsz, F, N, helt, hQ⟩ := h₁
  have hsize : vs.toArray.size = vs.length := by simp
  have fin : ∀ (s₂ : Shared) (o : Obj), s₂ = { s₁ with heap := s₁.heap.push o } → ∀ (St : Nat → Heap → Prop), Walks prog w A s₁.heap.objs.size [s₁.heap.objs.size, a] [s₁.heap.objs.size] vs.length (fun i v => vs[i]? = some v) St → St 0 s₂.heap → a < s₁.heap.objs.size →
      ∃ I fp wr n P St, Value.ref s₁.heap.objs.size = .ref I ∧ Walks prog w A I fp wr n P St ∧ n ≤ sizeLine ∧ St 0 s₂.heap ∧ (∀ b ∈ fp, b < s₂.heap.objs.size) ∧
      QuietOnC prog w A env scope cl x [] elt wr P (fun _ => true) R s₂ ∧
      (∀ D h' tk ys (vs : List Value), s₂.heap.get? D = none → h'.IsList D ys → h'.PlainList D ys → vs.length = n → (∀ j v, vs[j]? = some v → P j v) → Paired R (vs.filter fun _ => true) ys.toList →
        (∀ b o, b ∉ wr → s₂.heap.get? b = some o → h'.get? b = some o) → Q (.ref D) { s₂ with heap := h', toks := tk }) := by
    rintro s₂ o rfl St W hst ha
    have grow : ∀ {H : Heap}, (∀ b o', b ∉ [s₁.heap.objs.size] → (s₁.heap.push o).get? b = some o' → H.get? b = some o') → KeepH s₁.heap H := by
      intro H hk b o' e
      exact hk b o' (by intro hm; rw [List.mem_singleton.mp hm] at e; exact absurd (Heap.lt_size e) (Nat.lt_irrefl _)) (Heap.get?_push_of_some _ e)
    refine ⟨_, _, _, _, _, _, rfl, W, hsz, hst, ?_, ⟨?_, ?_⟩, ?_⟩
    · intro b hb
      rw [Heap.size_push]
      rcases List.mem_cons.mp hb with e | hb
      · rw [e]; exact Nat.lt_succ_self _
      · rw [List.mem_singleton.mp hb]; exact Nat.lt_succ_of_lt ha
    · intro C i v s₃ m₃ E' _ _ _ _ _ _
      exact wpAny_tests_nil ⟨rfl, _, _, rfl, fun _ _ e => e⟩
    · intro C i v s₃ m₃ E' _ hP _ hn hm hk _
      exact helt C v s₃ m₃ E' (List.mem_of_getElem? hP) hn hm (grow hk)
    · intro D h' tk ys vs' hD hl hpl hlen hP hpair hk
      have ev : vs' = vs := by
        refine List.ext_getElem? fun j => ?_
        by_cases hj : j < vs'.length
        · have := hP j _ (List.getElem?_eq_getElem hj)
          rw [this, List.getElem?_eq_getElem hj]
        · rw [List.getElem?_eq_none (by omega), List.getElem?_eq_none (by omega)]
      subst ev
      have K := grow hk
      have hft : (vs'.filter fun _ => true) = vs' := List.filter_eq_self.mpr fun _ _ => rfl
      rw [hft] at hpair
      obtain ⟨n, hDo⟩ := hpl
      have hD1 : s₁.heap.get? D = none := by
        cases e : s₁.heap.get? D with
        | none => rfl
        | some o' =>
          have e2 : (s₁.heap.push o).get? D = some o' := Heap.get?_push_of_some _ e
          have e3 : (s₁.heap.push o).get? D = none := hD
          rw [e2] at e3
          cases e3
      refine hQ D n ys.toList h' tk (F.keeps K) ?_ hpair K
      intro p hp'
      rcases List.mem_cons.mp hp' with rfl | hp'
      · refine ⟨by rw [hDo], ?_, ?_⟩
        · intro e
          obtain ⟨oL, _, _, hL, _⟩ := F.ns
          rw [← e] at hL
          have hL' : s₁.heap.get? D = some oL := hL
          rw [hL'] at hD1
          cases hD1
        · cases e : h₀.get? D with
          | none => rfl
          | some o' =>
            have := F.keep D o' e
            rw [this] at hD1
            cases hD1
      · exact N.grown K p hp'
  rcases hseq with hl | ht
  · obtain ⟨ol, hol, _⟩ := id hl
    have hlt := Heap.lt_size hol
    refine wpAny_pyIter_list hl (fin _ _ rfl _ (by have W := Walks.list (prog := prog) (w := w) hh s₁.heap.objs.size a (Nat.ne_of_lt hlt) vs.toArray; rw [hsize] at W; simpa using W) ?_ hlt)
    exact ⟨⟨_, Heap.get?_push_size _ rfl, rfl, rfl⟩, hl.at fun o e => Heap.get?_push_of_some _ e⟩
  · obtain ⟨ol, hol, _⟩ := id ht
    have hlt := Heap.lt_size hol
    refine wpAny_pyIter_tuple ht (fin _ _ rfl _ (by have W := Walks.tuple (prog := prog) (w := w) hh s₁.heap.objs.size a (Nat.ne_of_lt hlt) vs.toArray; rw [hsize] at W; simpa using W) ?_ hlt)
    exact ⟨⟨_, Heap.get?_push_size _ rfl, rfl, rfl⟩, ht.at fun o e => Heap.get?_push_of_some _ e⟩
/-- what the comprehension's source is to be, and what its element gives -/
def TxSrc (prog : Program) (w : World) (A : Around) (env : Env) (scope : Scope) (cl : List (Str × Addr)) (x : Str) (elt : PySem.Expr) (R : Value → List Nat → Prop) (Q : Value → Shared → Prop) (xv : Value) (s₁ : Shared) : Prop :=
  ∃ (a : Addr) (vs : List Value) (h₀ : Heap) (L : Addr) (m : Str → Option Value) (news : List (Addr × Obj)), xv = .ref a ∧ SeqIs s₁.heap a vs ∧ vs.length ≤ sizeLine ∧ Fr h₀ L s₁.heap m ∧ News h₀ L s₁.heap news ∧
    (∀ C v s₃ m₃ E', v ∈ vs → s₃.heap.Ns C m₃ → m₃ x = some v → KeepH s₁.heap s₃.heap → wpAny (model prog w) A (eval elt (compEnvC scope cl C env)) (fun y s₄ => (∃ c t, R v c ∧ y = .str (tx c) t) ∧ Keeps s₃ s₄) E' s₃) ∧
    (∀ D n ys css h' tk, Fr h₀ L h' m → News h₀ L h' ((D, W.listOf ys.toArray n) :: news) → TxAll ys css → Paired R vs css → KeepH s₁.heap h' → Q (.ref D) { s₁ with heap := h', toks := tk })
theorem paired_tx {R : Value → List Nat → Prop} : ∀ {vs ys : List Value}, Paired (fun v y => ∃ c t, R v c ∧ y = Value.str (tx c) t) vs ys → ∃ css, TxAll ys css ∧ Paired R vs css := by
  intro vs ys h
  induction h with
  | nil => exact ⟨[], TxAll.nil, .nil⟩
  | cons hF _ ih =>
    obtain ⟨c, t, hr, rfl⟩ := hF
    obtain ⟨css, ⟨l, rfl, e⟩, hp⟩ := ih
    exact ⟨c :: css, ⟨(tx c, t) :: l, rfl, by simp [e]⟩, .cons hr hp⟩
theorem m_compTx {prog : Program} {w : World} {A : Around} {E : Value → Shared → Prop} {env : Env} {s : Shared} {elt iter : PySem.Expr} {x : Str} {px : Pos} {scope : Scope} {cl : List (Str × Addr)} {pos : Pos} {Q : Value → Shared → Prop} (R : Value → List Nat → Prop)
    (hh : A.handled = none) (hclos : closureFor scope env = pure cl) (hcell : ∀ y ∈ scope.names, y.2 ≠ .cell) (hkind : scope.kind = .function)
    (hnames : ∀ y ∈ scope.names, y.2 = .local → scope.names.lookup y.1 = some .local) (hx : scope.names.lookup x = some .local)
    (h : wpAny (model prog w) A (eval iter env) (TxSrc prog w A env scope cl x elt R Q) E s)
    (hs : ∀ x, foldedSetIterable iter env x = pure x := by intro _; rfl) :
    wpAny (model prog w) A (eval (.ListComp elt [⟨.Name x px, iter, [], 0⟩] scope pos) env) Q E s := by
  refine m_compV (fun v y => ∃ c t, R v c ∧ y = Value.str (tx c) t) hh hclos hcell hkind hnames hx (wpAny_mono h (fun xv s₁ h₁ => ?_) fun _ _ e => e) hs
  obtain ⟨a, vs, h₀, L, m, news, rfl, hseq, hsz, F, N, helt, hQ⟩ := h₁
  refine ⟨a, vs, h₀, L, m, news, rfl, hseq, hsz, F, N, helt, ?_⟩
  intro D n ys h' tk F' N' hp K
  obtain ⟨css, ht, hp'⟩ := paired_tx hp
  exact hQ D n ys css h' tk F' N' ht hp' K

end
theorem fresh_Note : True := by first | row_walk | trivial
local macro_rules | `(tactic| walk_at "none Note 0") => `(tactic| fail)
section
-- needs: Comp
/-- the words of a note -/
def WL : List (List Nat) := [[108, 101], [97, 45, 98], [120, 49], [45, 120], [45, 45], [78, 111, 110, 101]]
/-- a note of at most n tuples one within another -/
inductive NoteOk : Nat → Dat → Prop
  | none (n : Nat) : NoteOk n .none
  | int (n : Nat) (i : Int) : Small i → NoteOk n (.int i)
  | str (n : Nat) (c : List Nat) : c ∈ WL → NoteOk n (.str (tx c))
  | tuple (n : Nat) (ds : List Dat) : (∀ d ∈ ds, NoteOk n d) → NoteOk (n + 1) (.tuple ds)
/-- an int's text -/
def intTx (i : Int) : List Nat := if i < 0 then 45 :: digs (-i).toNat else digs i.toNat
mutual
/-- what note_text writes -/
def noteTx : Dat → List Nat
  | .none => [45]
  | .int i => intTx i
  | .str x => x.cps.toList
  | .tuple ds => 40 :: (joinL [32] (noteTxs ds) ++ [41])
  | _ => []
def noteTxs : List Dat → List (List Nat)
  | [] => []
  | d :: ds => noteTx d :: noteTxs ds
end
theorem nat_abs {i : Int} {N : Nat} (h : i.natAbs < N) : i.toNat < N ∧ (-i).toNat < N :=
  ⟨Nat.lt_of_le_of_lt (by rcases Int.natAbs_eq i with e | e <;> rw [e] <;> simp) h, Nat.lt_of_le_of_lt (by rcases Int.natAbs_eq i with e | e <;> rw [e] <;> simp) h⟩
theorem small_digs {i : Int} (hs : Small i) : (digs i.toNat).length ≤ 9500 ∧ (digs (-i).toNat).length ≤ 9500 := by
  unfold Small at hs
  exact ⟨digs_len (by decide) (nat_abs hs).1, digs_len (by decide) (nat_abs hs).2⟩
local macro_rules | `(tactic| kct_strs) => ws
local macro_rules | `(tactic| tb_rel) => `(tactic| assumption)
/-- what a note's value and its text are to each other -/
def NoteAt (news : List (Addr × Obj)) (n : Nat) (v : Value) (c : List Nat) : Prop := ∃ d, DatIn news v d ∧ NoteOk n d ∧ (noteTx d).length ≤ 1000000 ∧ c = noteTx d
theorem joinL_le (sep : List Nat) : ∀ (css : List (List Nat)) (c : List Nat), c ∈ css → c.length ≤ (joinL sep css).length := by
  intro css
  induction css with
  | nil => intro c hc; cases hc
  | cons x r ih =>
    intro c hc
    cases r with
    | nil =>
      rw [List.mem_singleton.mp hc]
      exact Nat.le_refl _
    | cons y r =>
      show _ ≤ (x ++ sep ++ joinL sep (y :: r)).length
      rw [List.length_append, List.length_append]
      rcases List.mem_cons.mp hc with rfl | hc
      · omega
      · have := ih c hc
        omega
theorem joinL_sum (css : List (List Nat)) : (css.map List.length).sum + css.length ≤ (joinL [32] css).length + 1 := by
  induction css with
  | nil => simp [joinL]
  | cons x r ih =>
    cases r with
    | nil => simp [joinL]
    | cons y r =>
      have e : (joinL [32] (x :: y :: r)).length = x.length + 1 + (joinL [32] (y :: r)).length := by
        show (x ++ [32] ++ joinL [32] (y :: r)).length = _
        rw [List.length_append, List.length_append]
        rfl
      rw [e]
      simp only [List.map_cons, List.sum_cons, List.length_cons] at ih ⊢
      omega
theorem noteTxs_map (ds : List Dat) : noteTxs ds = ds.map noteTx := by
  induction ds with
  | nil => rfl
  | cons d ds ih => simp [noteTxs, ih]
theorem note_tuple (ds : List Dat) : noteTx (.tuple ds) = 40 :: (joinL [32] (ds.map noteTx) ++ [41]) := by
  rw [noteTx, noteTxs_map]
theorem datAll_of_mem {news : List (Addr × Obj)} {vs : List Value} {ds : List Dat} (h : DatAll news vs ds) {v : Value} (hv : v ∈ vs) : ∃ d ∈ ds, DatIn news v d := by
  induction vs generalizing ds with
  | nil => cases hv
  | cons u vs ih =>
    cases h with
    | cons h1 h2 =>
      rcases List.mem_cons.mp hv with rfl | hv
      · exact ⟨_, .head _, h1⟩
      · obtain ⟨d, hd, hi⟩ := ih h2 hv
        exact ⟨d, .tail _ hd, hi⟩
section
variable {h₀ h : Heap} {L : Addr} {news : List (Addr × Obj)}
theorem news_fun (N : News h₀ L h news) {a : Addr} {o o' : Obj} (x : (a, o) ∈ news) (y : (a, o') ∈ news) : o = o' := by
  have e1 := (N _ x).1
  have e2 := (N _ y).1
  have e3 : some o = some o' := e1.symm.trans e2
  exact Option.some.inj e3
mutual
theorem dat_fun (N : News h₀ L h news) : ∀ {v : Value} {d d' : Dat}, DatIn news v d → DatIn news v d' → d = d'
  | _, _, _, .none, x => by cases x; rfl
  | _, _, _, .bool _, x => by cases x; rfl
  | _, _, _, .int _ _, x => by cases x; rfl
  | _, _, _, .str _ _, x => by cases x; rfl
  | _, _, _, .bytes _ _, x => by cases x; rfl
  | _, _, _, .tuple (vs := vs) (ds := ds) hm r, x => by
    cases x with
    | tuple hm' r' =>
      have e := news_fun N hm hm'
      injection e with _ _ e _
      injection e with e _
      have e' := congrArg Array.toList e
      simp only [List.toList_toArray] at e'
      subst e'
      rw [datAll_fun N r r']
    | list hm' r' =>
      have e : Value.type "tuple" = Value.type "list" := congrArg Obj.cls (news_fun N hm hm')
      exact absurd e (by decide)
  | _, _, _, .list (vs := vs) (ds := ds) hm r, x => by
    cases x with
    | tuple hm' r' =>
      have e : Value.type "list" = Value.type "tuple" := congrArg Obj.cls (news_fun N hm hm')
      exact absurd e (by decide)
    | list hm' r' =>
      have e := news_fun N hm hm'
      injection e with _ _ e _
      injection e with e _
      have e' := congrArg Array.toList e
      simp only [List.toList_toArray] at e'
      subst e'
      rw [datAll_fun N r r']
theorem datAll_fun (N : News h₀ L h news) : ∀ {vs : List Value} {ds ds' : List Dat}, DatAll news vs ds → DatAll news vs ds' → ds = ds'
  | _, _, _, .nil, x => by cases x; rfl
  | _, _, _, .cons h1 h2, x => by
    cases x with
    | cons k1 k2 => rw [dat_fun N h1 k1, datAll_fun N h2 k2]
end
theorem noteAt_all (N : News h₀ L h news) {n : Nat} : ∀ {vs : List Value} {ds : List Dat} {css : List (List Nat)}, DatAll news vs ds → Paired (NoteAt news n) vs css → css = ds.map noteTx
  | _, _, _, .nil, h => by cases h; rfl
  | _, _, _, .cons h1 h2, h => by
    cases h with
    | cons hF ht =>
      obtain ⟨d, hd, _, _, rfl⟩ := hF
      rw [dat_fun N hd h1, noteAt_all N h2 ht]
      rfl
end
set_option maxHeartbeats 8000000 in
theorem note_spec {w : World} {mean : ExcName → Option Value} {mg mb : Str → Option Value} (n : Nat) : ∀ {dp un : Nat} {gd : Option (List Code)} {cn : Str} {cs : Scope} {a : Addr} {ccd : Value} {cl : List (Str × Addr)} {outer : List Env} {A₀ : Around} {base h₀ : Heap} {L : Addr} {m : Str → Option Value} {s : Shared}
    {Q E : Value → Shared → Prop} {news : List (Addr × Obj)} {v : Value} {d : Dat}
    (B : Below A₀ base outer h₀) (F : Fr h₀ L s.heap m) (X : (Mine.hd.heap_39 w.params).In h₀) (N : News h₀ L s.heap news) (T : Top Mine.vw (looseW Mine.vw [Str.ofString "ROUND"]) mean mg mb h₀) (hk : cs.kind = .function)
    (hR : DatIn news v d) (hok : NoteOk n d) (hz : (noteTx d).length ≤ 1000000) (hd : dp + n + 2 < 1000) (hu : un + 16 * n + 32 < 9900)
    (hret : ∀ t h' tk', Fr h₀ L h' m → News h₀ L h' news → KeepH s.heap h' → Q (.str (tx (noteTx d)) t) { s with heap := h', toks := tk' }),
    wpAny (model PySem.Challenge.rw_sj0098_01.row.prog w) (ktrTop dp un gd cn cs L a ccd cl outer) (call (.ref 227) [v]) Q E s := by
  induction n with
  | zero =>
    intros dp un gd cn cs a ccd cl outer A₀ base h₀ L m s Q E news v d B F X N T hk hR hok hz hd hu hret
    refine wpAny_call ?_
    cases hok with
    | none => cases hR; (w_strict (k_dflt kbo_bools; kbt_split; exact lit_dash ▸ hret _ _ _ (by k_asm) (by k_asm) (keep_of (by assumption) N (by k_asm) (by k_asm) fun _ h => h)))
    | int _ i hs =>
      have hdl := small_digs hs
      cases hR
      w_strict (
        k_dflt kbo_bools
        kbt_split
        · rename i < 0 => hneg
          have e : noteTx (.int i) = [45] ++ digs (-i).toNat := by
            rw [noteTx, intTx, if_pos hneg]; rfl
          rw [e] at hret
          exact hret _ _ _ (by k_asm) (by k_asm) (keep_of (by assumption) N (by k_asm) (by k_asm) fun _ h => h)
        · rename ¬ i < 0 => hneg
          have e : noteTx (.int i) = digs i.toNat := by
            rw [noteTx, intTx, if_neg hneg]
          rw [e] at hret
          exact hret _ _ _ (by k_asm) (by k_asm) (keep_of (by assumption) N (by k_asm) (by k_asm) fun _ h => h))
    | str _ c hc => cases hR; (w_strict (k_dflt kbo_bools; kbt_split; exact hret _ _ _ (by k_asm) (by k_asm) (keep_of (by assumption) N (by k_asm) (by k_asm) fun _ h => h)))
  | succ n ih =>
    intros dp un gd cn cs a ccd cl outer A₀ base h₀ L m s Q E news v d B F X N T hk hR hok hz hd hu hret
    refine wpAny_call ?_
    cases hok with
    | none => cases hR; (w_strict (k_dflt kbo_bools; kbt_split; exact lit_dash ▸ hret _ _ _ (by k_asm) (by k_asm) (keep_of (by assumption) N (by k_asm) (by k_asm) fun _ h => h)))
    | int _ i hs =>
      have hdl := small_digs hs
      cases hR
      w_strict (
        k_dflt kbo_bools
        kbt_split
        · rename i < 0 => hneg
          have e : noteTx (.int i) = [45] ++ digs (-i).toNat := by
            rw [noteTx, intTx, if_pos hneg]; rfl
          rw [e] at hret
          exact hret _ _ _ (by k_asm) (by k_asm) (keep_of (by assumption) N (by k_asm) (by k_asm) fun _ h => h)
        · rename ¬ i < 0 => hneg
          have e : noteTx (.int i) = digs i.toNat := by
            rw [noteTx, intTx, if_neg hneg]
          rw [e] at hret
          exact hret _ _ _ (by k_asm) (by k_asm) (keep_of (by assumption) N (by k_asm) (by k_asm) fun _ h => h))
    | str _ c hc => cases hR; (w_strict (k_dflt kbo_bools; kbt_split; exact hret _ _ _ (by k_asm) (by k_asm) (keep_of (by assumption) N (by k_asm) (by k_asm) fun _ h => h)))
    | tuple _ ds hds =>
      cases hR with
      | tuple hmem hDA =>
        rw [note_tuple] at hz
        simp only [List.length_cons, List.length_append, List.length_nil] at hz
        have hcnt := joinL_sum (ds.map noteTx)
        rw [List.length_map] at hcnt
        w_strict (
          k_dflt kbo_bools
          kbt_split
          k_dflt (refine' m_compTx (cl := []) (NoteAt news n) rfl ?clos ?cell ?kind ?names ?x ?h ?s)
          (case clos => exact closureFor_none (by decide))
          (case cell => decide)
          (case kind => rfl)
          (case names => decide)
          (case x => rfl)
          (case s => intro _; rfl)
          kbt_split
          (rename Fr _ _ _ _ => F9)
          (rename News _ _ _ _ => N9)
          refine ⟨_, _, _, _, _, _, rfl, .inr ⟨_, (N9 _ hmem).1, rfl, _, rfl⟩, ?_, F9, N9, ?_, ?_⟩
          · rw [sizeLine_eq, hDA.length]
            omega
          · intro C v s₃ m₃ E' hv hns hm3 hkeep
            have F3 := F9.keeps hkeep
            have N3 := N9.grown hkeep
            obtain ⟨d, hd1, hd2⟩ := datAll_of_mem hDA hv
            have hlen : (noteTx d).length ≤ _ := joinL_le [32] (ds.map noteTx) _ (List.mem_map.mpr ⟨d, hd1, rfl⟩)
            clear F9 N9
            kbt_split
            k_dflt (refine' ih (by k_asm) (by k_asm) (by k_asm) (by k_asm) (by k_asm) rfl hd2 (hds d hd1) ?z ?d ?u ?r)
            (case z => omega)
            (case d => ktr_room)
            (case u => ktr_units)
            intro t h' tk' _ _ K
            exact ⟨⟨_, _, ⟨d, hd2, hds d hd1, by omega, rfl⟩, rfl⟩, _, _, rfl, K⟩
          · intro D n' ys css h' tk' F1 N1 ht hp hkeep
            have hcss := noteAt_all (fun p hp => N1 p (.tail _ hp)) hDA hp
            subst hcss
            rw [note_tuple] at hret
            clear F9 N9
            kbt_split
            exact hret _ _ _ (by k_asm) (kst_newsOf (by assumption) (fun p hp => .tail _ hp)) (keep_of (by assumption) N (by k_asm) (by k_asm) fun _ h => .tail _ h))

end
theorem fresh_Txts : True := by first | row_walk | trivial
local macro_rules | `(tactic| walk_at "none Txts 0") => `(tactic| fail)
section
-- needs: Note
theorem slice_one (c : List Nat) : Txt.slice (tx c) none (some 1) = tx (c.take 1) := by
  cases c with
  | nil => rfl
  | cons a r =>
    have h := StrLaws.sliceText_to (x := tx (a :: r)) (j := 1) ⟨by decide, by rw [tx_toList, List.length_cons]; omega⟩
    exact h
theorem slice_tail (c : List Nat) (h : 1 ≤ c.length) : Txt.slice (tx c) (some 1) none = tx (c.drop 1) := by
  have h := StrLaws.sliceText_from (x := tx c) (i := 1) ⟨by decide, by rw [tx_toList]; omega⟩
  refine Eq.trans h ?_
  show tx _ = tx _
  congr 1
  rw [tx_toList]
  apply List.take_of_length_le
  simp
theorem slice_part (c : List Nat) (k : Nat) (d : Nat) (h : k ≤ c.length) : Txt.slice (tx c) (some (k : Int)) (some ((k : Int) + d)) = tx ((c.drop k).take d) := by
  by_cases hd : k + d ≤ c.length
  · have h := StrLaws.sliceText_plain (x := tx c) (i := (k : Int)) (j := (k : Int) + d) ⟨by omega, by omega, by rw [tx_toList]; omega⟩
    refine Eq.trans h ?_
    show tx _ = tx _
    congr 1
    rw [tx_toList]
    congr 1
    · omega
  · have e : Txt.slice (tx c) (some (k : Int)) (some ((k : Int) + d)) = Txt.slice (tx c) (some (k : Int)) (some (c.length : Int)) := by
      unfold Txt.slice
      have : Builtin.Str.strSliceIndices (some (k : Int)) (some ((k : Int) + d)) 1 (tx c).length = Builtin.Str.strSliceIndices (some (k : Int)) (some (c.length : Int)) 1 (tx c).length := by
        rw [tx_length]
        have h1 : ¬ ((k : Int) + d < 0) := by omega
        have h2 : ¬ ((c.length : Int) < 0) := by omega
        have h3 : min ((k : Int) + d) (c.length : Int) = c.length := by omega
        have h4 : min (c.length : Int) (c.length : Int) = c.length := by omega
        simp only [Builtin.Str.strSliceIndices, h1, h2, if_false, h3, h4, show (1 : Int) > 0 from by decide, if_true]
      rw [this]
    rw [e]
    have h := StrLaws.sliceText_plain (x := tx c) (i := (k : Int)) (j := (c.length : Int)) ⟨by omega, by omega, by rw [tx_toList]; omega⟩
    refine Eq.trans h ?_
    show tx _ = tx _
    congr 1
    rw [tx_toList, Int.toNat_natCast]
    rw [List.take_of_length_le (by rw [List.length_drop]; omega), List.take_of_length_le (by rw [List.length_drop]; omega)]

theorem strip_tx (y : PySem.Str) (l r : Bool) (c : List Nat) : Txt.stripBy y.cps.contains l r (tx c) =
    tx ((c.drop (if l then (c.takeWhile y.cps.contains).length else 0)).take ((if r then c.length - ((c.drop (if l then (c.takeWhile y.cps.contains).length else 0)).reverse.takeWhile y.cps.contains).length else c.length) - (if l then (c.takeWhile y.cps.contains).length else 0))) := by
  rw [PyProof.Rows.stripBy_eq, ← tx_eta (Builtin.Str.strSub _ _ _), StrLaws.strSub_toList, tx_toList]
  unfold stripLo stripHi
  rw [tx_toList, tx_length]
theorem drop_takeWhile (p : Nat → Bool) (c : List Nat) : c.drop (c.takeWhile p).length = c.dropWhile p := by
  induction c with
  | nil => rfl
  | cons a r ih =>
    by_cases h : p a
    · simp [List.takeWhile_cons, List.dropWhile_cons, h, ih]
    · simp [List.takeWhile_cons, List.dropWhile_cons, h]
theorem takeWhile_le (p : Nat → Bool) (c : List Nat) : (c.takeWhile p).length ≤ c.length := by
  induction c with
  | nil => exact Nat.le_refl _
  | cons a r ih =>
    by_cases h : p a
    · simp only [List.takeWhile_cons, h, if_true, List.length_cons]; omega
    · simp [List.takeWhile_cons, h]
theorem takeWhile_every (p : Nat → Bool) (c : List Nat) (h : ∀ a ∈ c, p a = true) : c.takeWhile p = c := by
  induction c with
  | nil => rfl
  | cons a r ih =>
    simp only [List.takeWhile_cons, h a (.head _), if_true]
    rw [ih fun b hb => h b (.tail _ hb)]
theorem lstrip_tx (y : PySem.Str) (c : List Nat) : Txt.lstripChars (tx c) y = tx (c.dropWhile y.cps.contains) := by
  unfold Txt.lstripChars
  rw [strip_tx]
  simp only [if_true, Bool.false_eq_true, if_false]
  rw [drop_takeWhile]
  congr 1
  apply List.take_of_length_le
  rw [← drop_takeWhile, List.length_drop]
  exact Nat.le_refl _
theorem rstrip_tx (y : PySem.Str) (c : List Nat) : Txt.rstripChars (tx c) y = tx ((c.reverse.dropWhile y.cps.contains).reverse) := by
  unfold Txt.rstripChars
  rw [strip_tx]
  simp only [if_true, Bool.false_eq_true, if_false, List.drop_zero, Nat.sub_zero]
  congr 1
  rw [← drop_takeWhile, ← List.reverse_reverse (c.take _), List.reverse_take]
  congr 1
  have : (c.reverse.takeWhile y.cps.contains).length ≤ c.length := by
    have := takeWhile_le y.cps.contains c.reverse
    simpa using this
  congr 1
  omega
theorem strip_all (y : PySem.Str) (c : List Nat) (h : ∀ a ∈ c, y.cps.contains a = true) : Txt.stripChars (tx c) y = tx [] := by
  unfold Txt.stripChars
  rw [strip_tx]
  simp only [if_true]
  have e : c.takeWhile y.cps.contains = c := takeWhile_every _ _ h
  rw [e]
  simp
/-- where sep stands -/
theorem at_tx {x sep : List Nat} {k : Nat} : StrLaws.At (tx x) (tx sep) (tx x).length k ↔ k + sep.length ≤ x.length ∧ (x.drop k).take sep.length = sep := by
  unfold StrLaws.At
  rw [StrLaws.subAt_eq, tx_length, tx_length, tx_toList, tx_toList]
  simp
theorem chain_same {s sub : PySem.Str} {hi : Nat} : ∀ {a : Nat} {cuts cuts' : List Nat} {f f' : Nat}, StrLaws.ChainG s sub hi a cuts f → (∀ k, f ≤ k → ¬ StrLaws.At s sub hi k) →
    StrLaws.ChainG s sub hi a cuts' f' → (∀ k, f' ≤ k → ¬ StrLaws.At s sub hi k) → cuts = cuts'
  | a, [], [], f, f', _, _, _, _ => rfl
  | a, [], c :: r, f, f', h, hn, h', _ => by
    have e : f = a := h
    exact absurd h'.2.1 (hn c (e ▸ h'.1))
  | a, c :: r, [], f, f', h, _, h', hn' => by
    have e : f' = a := h'
    exact absurd h.2.1 (hn' c (e ▸ h.1))
  | a, c :: r, c' :: r', f, f', h, hn, h', hn' => by
    have e : c = c' := by
      rcases Nat.lt_trichotomy c c' with hl | hl | hl
      · exact absurd h.2.1 (h'.2.2.1 c h.1 hl)
      · exact hl
      · exact absurd h'.2.1 (h.2.2.1 c' h'.1 hl)
    subst e
    rw [chain_same h.2.2.2 hn h'.2.2.2 hn']
/-- the cuts of texts joined -/
def cutsOf (n : Nat) : Nat → List (List Nat) → List Nat
  | _, [] => []
  | _, [_] => []
  | a, x :: y :: r => (a + x.length) :: cutsOf n (a + x.length + n) (y :: r)
section
variable {pre post : List Nat} {μ : Nat}
theorem no_at {w rest head : List Nat} (hpre : μ ∉ pre) (hw : μ ∉ w) (hrest : rest = [] ∨ ∃ r, rest = (pre ++ μ :: post) ++ r) {k : Nat} (h1 : head.length ≤ k) (h2 : k < head.length + w.length ∨ rest = []) :
    ¬ StrLaws.At (tx (head ++ (w ++ rest))) (tx (pre ++ μ :: post)) (tx (head ++ (w ++ rest))).length k := by
  rw [at_tx]
  rintro ⟨hl, he⟩
  obtain ⟨j, rfl⟩ : ∃ j, k = head.length + j := ⟨k - head.length, by omega⟩
  have e1 : (head ++ (w ++ rest)).drop (head.length + j) = (w ++ rest).drop j := by
    rw [← List.drop_drop, List.drop_left]
  rw [e1] at he
  have e2 : ((w ++ rest).drop j)[pre.length]? = some μ := by
    have : (((w ++ rest).drop j).take (pre ++ μ :: post).length)[pre.length]? = some μ := by
      rw [he]; simp
    rw [List.getElem?_take_of_lt (by simp)] at this
    exact this
  rw [List.getElem?_drop] at e2
  by_cases hj : j + pre.length < w.length
  · rw [List.getElem?_append_left hj] at e2
    exact hw (List.mem_of_getElem? e2)
  · rw [List.getElem?_append_right (by omega)] at e2
    rcases hrest with rfl | ⟨r, rfl⟩
    · simp at e2
    · rcases h2 with h2 | h2
      · rw [List.append_assoc, List.getElem?_append_left (by omega)] at e2
        exact hpre (List.mem_of_getElem? e2)
      · simp at h2
theorem chain_cuts (hpre : μ ∉ pre) : ∀ (ws : List (List Nat)) (head : List Nat), ws ≠ [] → (∀ w ∈ ws, μ ∉ w) →
    ∃ f, StrLaws.ChainG (tx (head ++ joinL (pre ++ μ :: post) ws)) (tx (pre ++ μ :: post)) (tx (head ++ joinL (pre ++ μ :: post) ws)).length head.length (cutsOf (pre ++ μ :: post).length head.length ws) f ∧
      (∀ k, f ≤ k → ¬ StrLaws.At (tx (head ++ joinL (pre ++ μ :: post) ws)) (tx (pre ++ μ :: post)) (tx (head ++ joinL (pre ++ μ :: post) ws)).length k) ∧
      StrLaws.partsFrom (tx (head ++ joinL (pre ++ μ :: post) ws)) (pre ++ μ :: post).length head.length (cutsOf (pre ++ μ :: post).length head.length ws) = ws.map tx := by
  intro ws
  induction ws with
  | nil => intro _ h; exact absurd rfl h
  | cons w r ih =>
    intro head _ hf
    have hw := hf w (.head _)
    cases r with
    | nil =>
      refine ⟨head.length, rfl, fun k hk => ?_, ?_⟩
      · have := no_at (post := post) (w := w) (rest := []) (head := head) hpre hw (.inl rfl) hk (.inr rfl)
        rw [List.append_nil] at this
        exact this
      · show [Builtin.Str.strSub _ _ _] = [tx w]
        congr 1
        rw [← tx_eta (Builtin.Str.strSub _ _ _), StrLaws.strSub_toList, tx_toList, tx_length]
        congr 1
        show List.take _ ((head ++ w).drop head.length) = w
        rw [List.drop_left]
        apply List.take_of_length_le
        show w.length ≤ (head ++ w).length - head.length
        rw [List.length_append]
        omega
    | cons y r =>
      have ej : joinL (pre ++ μ :: post) (w :: y :: r) = w ++ ((pre ++ μ :: post) ++ joinL (pre ++ μ :: post) (y :: r)) := by
        show w ++ (pre ++ μ :: post) ++ joinL (pre ++ μ :: post) (y :: r) = _
        rw [List.append_assoc]
      have eh : head ++ joinL (pre ++ μ :: post) (w :: y :: r) = (head ++ w ++ (pre ++ μ :: post)) ++ joinL (pre ++ μ :: post) (y :: r) := by
        rw [ej]; simp only [List.append_assoc]
      obtain ⟨f, hc, hn, hp⟩ := ih (head ++ w ++ (pre ++ μ :: post)) (by simp) fun q hq => hf q (.tail _ hq)
      have el : (head ++ w ++ (pre ++ μ :: post)).length = head.length + w.length + (pre ++ μ :: post).length := by
        rw [List.length_append, List.length_append]
      rw [el, ← eh] at hc
      rw [← eh] at hn
      rw [el, ← eh] at hp
      refine ⟨f, ⟨by omega, ?_, ?_, ?_⟩, hn, ?_⟩
      · rw [at_tx, eh]
        constructor
        · have q := List.length_append (as := head ++ w ++ (pre ++ μ :: post)) (bs := joinL (pre ++ μ :: post) (y :: r))
          omega
        · rw [List.append_assoc, ← List.length_append, List.drop_left, List.take_left]
      · intro k h1 h2
        have := no_at (post := post) (w := w) (rest := (pre ++ μ :: post) ++ joinL (pre ++ μ :: post) (y :: r)) (head := head) hpre hw (.inr ⟨_, rfl⟩) h1 (.inl h2)
        rw [← ej] at this
        exact this
      · rw [tx_length]
        exact hc
      · show Builtin.Str.strSub _ _ _ :: StrLaws.partsFrom _ _ _ _ = tx w :: (y :: r).map tx
        congr 1
        rw [← tx_eta (Builtin.Str.strSub _ _ _), StrLaws.strSub_toList, tx_toList]
        congr 1
        rw [ej, List.drop_left]
        have : head.length + w.length - head.length = w.length := by omega
        rw [this, List.take_left]
end
theorem kind_one {sep : List Nat} (h : ∀ a ∈ sep, a < 256) (x : PySem.Str) : ¬ Builtin.Str.strKind x < Builtin.Str.strKind (tx sep) := by
  have e : Builtin.Str.strKind (tx sep) = 1 := by
    unfold Builtin.Str.strKind
    have : (tx sep).cps.all (· < 256) = true := by
      rw [← Array.all_toList, tx_toList]
      exact List.all_eq_true.mpr fun a ha => decide_eq_true (h a ha)
    rw [this]; rfl
  rw [e]
  unfold Builtin.Str.strKind
  split
  · omega
  · split <;> omega
theorem split_tx {pre post : List Nat} {μ : Nat} (hpre : μ ∉ pre) (hs : ∀ a ∈ pre ++ μ :: post, a < 256) {ws : List (List Nat)} (hne : ws ≠ []) (hf : ∀ w ∈ ws, μ ∉ w) :
    Txt.split (tx (joinL (pre ++ μ :: post) ws)) (tx (pre ++ μ :: post)) = ws.map tx := by
  obtain ⟨f, hc, hn, hp⟩ := chain_cuts (post := post) hpre ws [] hne hf
  obtain ⟨f', hc', hn'⟩ := StrLaws.occ_tight (tx (joinL (pre ++ μ :: post) ws)) (tx (pre ++ μ :: post)) (by rw [tx_length]; simp only [List.length_append, List.length_cons]; omega)
  simp only [List.nil_append, List.length_nil] at hc hn hp
  have e := chain_same hc hn hc' hn'
  rw [e] at hp
  have hk := kind_one hs (tx (joinL (pre ++ μ :: post) ws))
  unfold Txt.split
  split
  · rename_i h
    rw [Bool.or_eq_true, decide_eq_true_eq, decide_eq_true_eq] at h
    rcases h with h | h
    · cases ws with
      | nil => exact absurd rfl hne
      | cons w r =>
        cases r with
        | nil => rfl
        | cons y r =>
          exfalso
          rw [tx_length, tx_length] at h
          have : joinL (pre ++ μ :: post) (w :: y :: r) = w ++ (pre ++ μ :: post) ++ joinL (pre ++ μ :: post) (y :: r) := rfl
          rw [this] at h
          simp only [List.length_append, List.length_cons] at h
          omega
    · exact absurd h hk
  · split
    · rename_i h
      rw [List.isEmpty_iff] at h
      rw [h] at hp
      have : StrLaws.partsFrom (tx (joinL (pre ++ μ :: post) ws)) (pre ++ μ :: post).length 0 [] = [Builtin.Str.strSub (tx (joinL (pre ++ μ :: post) ws)) 0 (tx (joinL (pre ++ μ :: post) ws)).length] := rfl
      rw [this, StrLaws.sub_whole] at hp
      exact hp
    · rw [StrLaws.partsBetween_eq, tx_length (pre ++ μ :: post)]
      exact hp
section
variable {prog : Program} {w : World} {A : Around} {E : Value → Shared → Prop} {s : Shared} {h₀ : Heap} {L : Addr} {m : Str → Option Value} {news : List (Addr × Obj)} {x y : PySem.Str} {a b c : List Nat} {t u : Tok} {Q : Value → Shared → Prop}
theorem lit_zero : PySem.Str.ofString "0" = tx [48] := by decide
theorem lit_nil : PySem.Str.ofString "" = tx [] := by decide
theorem m_eqF (hx : x = tx a) (hy : y = tx b) (h : a ≠ b) (hq : Q (.bool false) s) : wpAny (model prog w) A (compareOp .Eq (.str x t) (.str y u)) Q E s := by
  refine eq_str ?_
  have : (x == y) = false := by
    subst hx; subst hy
    exact beq_eq_false_iff_ne.mpr fun e => h (tx_inj e)
  rw [this]; exact hq
theorem m_eqT (hx : x = tx a) (hy : y = tx b) (h : a = b) (hq : Q (.bool true) s) : wpAny (model prog w) A (compareOp .Eq (.str x t) (.str y u)) Q E s := by
  refine eq_str ?_
  have : (x == y) = true := by
    subst hx; subst hy; subst h
    exact beq_iff_eq.mpr rfl
  rw [this]; exact hq
theorem m_neF (hx : x = tx a) (hy : y = tx b) (h : a = b) (hq : Q (.bool false) s) : wpAny (model prog w) A (compareOp .NotEq (.str x t) (.str y u)) Q E s := by
  refine ne_str ?_
  have : (x != y) = false := by
    subst hx; subst hy; subst h
    exact bne_eq_false_iff_eq.mpr rfl
  rw [this]; exact hq
theorem m_neT (hx : x = tx a) (hy : y = tx b) (h : a ≠ b) (hq : Q (.bool true) s) : wpAny (model prog w) A (compareOp .NotEq (.str x t) (.str y u)) Q E s := by
  refine ne_str ?_
  have : (x != y) = true := by
    subst hx; subst hy
    exact bne_iff_ne.mpr fun e => h (tx_inj e)
  rw [this]; exact hq
section
variable {value slice : PySem.Expr}
theorem m_slice1 {uj : Tok} (hF : Fr h₀ L s.heap m) (hN : News h₀ L s.heap news) (hz : c.length ≤ 16777216) (h : ∀ h' t' k, Fr h₀ L h' m → News h₀ L h' news → Q (.str (tx (c.take 1)) t') { s with heap := h', toks := k })
    (hs : subscripted slice false (.str (tx c) t) (.ref s.heap.objs.size) = operate [.ref s.heap.objs.size, .str (tx c) t] (getItem (.str (tx c) t) (.ref s.heap.objs.size)))
    (ht : ∀ r, letTemporaryGo value (.str (tx c) t) r = pure ()) :
    wpAny (model prog w) A (subscriptTail value slice (.str (tx c) t) (.ref s.heap.objs.size)) Q E { s with heap := s.heap.push { cls := .type "slice", data := .fields #[.none, .int 1 uj, .none] } } :=
  slice_strN_ns hF hN (fun h' t' k F N => by rw [slice_one]; exact h h' t' k F N) hs ht (by rw [tx_length, sizeLine_eq]; exact hz)
theorem m_sliceT {ui : Tok} (hF : Fr h₀ L s.heap m) (hN : News h₀ L s.heap news) (hz : c.length ≤ 16777216) (h1 : 1 ≤ c.length) (h : ∀ h' t' k, Fr h₀ L h' m → News h₀ L h' news → Q (.str (tx (c.drop 1)) t') { s with heap := h', toks := k })
    (hs : subscripted slice false (.str (tx c) t) (.ref s.heap.objs.size) = operate [.ref s.heap.objs.size, .str (tx c) t] (getItem (.str (tx c) t) (.ref s.heap.objs.size)))
    (ht : ∀ r, letTemporaryGo value (.str (tx c) t) r = pure ()) :
    wpAny (model prog w) A (subscriptTail value slice (.str (tx c) t) (.ref s.heap.objs.size)) Q E { s with heap := s.heap.push { cls := .type "slice", data := .fields #[.int 1 ui, .none, .none] } } :=
  slice_strN_sn hF hN (fun h' t' k F N => by rw [slice_tail c h1]; exact h h' t' k F N) hs ht (by rw [tx_length, sizeLine_eq]; exact hz)
theorem m_sliceP {i j : Int} {ui uj : Tok} (hF : Fr h₀ L s.heap m) (hN : News h₀ L s.heap news) (hz : c.length ≤ 16777216) (h0 : 0 ≤ i) (h1 : i ≤ (c.length : Int)) (hj : i ≤ j) (h : ∀ h' t' k, Fr h₀ L h' m → News h₀ L h' news → Q (.str (tx ((c.drop i.toNat).take (j - i).toNat)) t') { s with heap := h', toks := k })
    (hs : subscripted slice false (.str (tx c) t) (.ref s.heap.objs.size) = operate [.ref s.heap.objs.size, .str (tx c) t] (getItem (.str (tx c) t) (.ref s.heap.objs.size)))
    (ht : ∀ r, letTemporaryGo value (.str (tx c) t) r = pure ()) :
    wpAny (model prog w) A (subscriptTail value slice (.str (tx c) t) (.ref s.heap.objs.size)) Q E { s with heap := s.heap.push { cls := .type "slice", data := .fields #[.int i ui, .int j uj, .none] } } := by
  refine slice_strN_ss hF hN (fun h' t' k F N => ?_) hs ht (by rw [tx_length, sizeLine_eq]; exact hz)
  obtain ⟨a, rfl⟩ := Int.eq_ofNat_of_zero_le h0
  obtain ⟨d, hd⟩ := Int.eq_ofNat_of_zero_le (show 0 ≤ j - (a : Int) by omega)
  have e : j = (a : Int) + (d : Int) := by omega
  subst e
  rw [slice_part c a d (by omega)]
  have e1 : ((a : Int) + (d : Int) - (a : Int)).toNat = d := by omega
  have q := h h' t' k F N
  rw [e1, Int.toNat_natCast] at q
  exact q
end
end
section
variable {prog : Program} {w : World} {A : Around} {E : Value → Shared → Prop} {s : Shared} {c : List Nat} {t u : Tok} {Q : Value → Shared → Prop}
theorem in_digs {a : Nat} (h : 48 ≤ a ∧ a ≤ 57) : (tx [48, 49, 50, 51, 52, 53, 54, 55, 56, 57]).cps.contains a = true := by
  have key : ∀ k : Fin 10, (tx [48, 49, 50, 51, 52, 53, 54, 55, 56, 57]).cps.contains (48 + k.1) = true := by decide +kernel
  have := key ⟨a - 48, by omega⟩
  rwa [show 48 + (a - 48) = a by omega] at this
theorem m_stripD (hz : c.length ≤ 16777216) (hall : ∀ a ∈ c, 48 ≤ a ∧ a ≤ 57) (h : ∀ t' k, Q (.str (tx []) t') { s with toks := k }) :
    wpAny (model prog w) A (call (.builtin "str.strip") [.str (tx c) t, .str (PySem.Str.ofString "0123456789") u]) Q E s := by
  refine SC.stripChars (fun t' k => ?_) (by rw [tx_length, sizeLine_eq]; exact hz)
  rw [strip_all _ _ fun a ha => ?_]
  · exact h t' k
  · have e : (PySem.Str.ofString "0123456789") = tx [48, 49, 50, 51, 52, 53, 54, 55, 56, 57] := by decide
    rw [e]
    exact in_digs (hall a ha)
theorem contains_one (b : Nat) : (tx [b]).cps.contains = fun a => a == b := by
  funext a
  simp only [tx, List.contains_toArray, List.contains_cons, List.contains_nil, Bool.or_false]
theorem m_lstripP (hz : c.length ≤ 16777216) (h : ∀ t' k, Q (.str (tx (c.dropWhile (· == 40))) t') { s with toks := k }) :
    wpAny (model prog w) A (call (.builtin "str.lstrip") [.str (tx c) t, .str (PySem.Str.ofString "(") u]) Q E s := by
  refine SC.lstripChars (fun t' k => ?_) (by rw [tx_length, sizeLine_eq]; exact hz)
  rw [lit_open, lstrip_tx, contains_one]
  exact h t' k
theorem m_rstripP (hz : c.length ≤ 16777216) (h : ∀ t' k, Q (.str (tx (c.reverse.dropWhile (· == 41)).reverse) t') { s with toks := k }) :
    wpAny (model prog w) A (call (.builtin "str.rstrip") [.str (tx c) t, .str (PySem.Str.ofString ")") u]) Q E s := by
  refine SC.rstripChars (fun t' k => ?_) (by rw [tx_length, sizeLine_eq]; exact hz)
  rw [lit_close, rstrip_tx, contains_one]
  exact h t' k
theorem m_first {value slice : PySem.Expr} {a : Nat} {r : List Nat} (hc : c = a :: r) (h : Q (.str (tx [a]) s.toks) { s with toks := s.toks + 1 })
    (hs : subscripted slice false (.str (tx c) t) (.int 0 u) = operate [.str (tx c) t, .int 0 u] (getItem (.str (tx c) t) (.int 0 u))) :
    wpAny (model prog w) A (subscriptTail value slice (.str (tx c) t) (.int 0 u)) Q E s := by
  subst hc
  refine tail_any (typeIs_str s (tx (a :: r)) t) slot_str_getitem.lookup (getItem_str (c := a) (by decide) (StrLaws.at_nonneg (by decide) (by simp [tx])) h) hs
end

end
local macro_rules | `(tactic| walk_at "subscriptTail") => wl "subscriptTail _ ( PySem.Expr.Slice none ( some _ ) none _ ) ( Value.str ( tx _ ) _ ) ( Value.ref _ )" "m_slice1" "k1 k2 k3 _ s t" "k1:a k2:a k3:c s:u t:p" "h' t' k' F' N'" 0
local macro_rules | `(tactic| walk_at "subscriptTail") => wl "subscriptTail _ ( PySem.Expr.Slice ( some _ ) none none _ ) ( Value.str ( tx _ ) _ ) ( Value.ref _ )" "m_sliceT" "k1 k2 k3 k4 _ s t" "k1:a k2:a k3:c k4:c s:u t:p" "h' t' k' F' N'" 0
local macro_rules | `(tactic| walk_at "subscriptTail") => wl "subscriptTail _ ( PySem.Expr.Slice ( some _ ) ( some _ ) none _ ) ( Value.str ( tx _ ) _ ) ( Value.ref _ )" "m_sliceP" "k1 k2 k3 k4 k5 k6 _ s t" "k1:a k2:a k3:c k4:o k5:o k6:o s:u t:p" "h' t' k' F' N'" 0
local macro_rules | `(tactic| walk_at "call builtin:str.strip") => wl "call ( Value.builtin _ ) [ ( Value.str ( tx _ ) _ ) ( Value.str _ _ ) ]" "m_stripD" "k1 k2 _" "k2:s k1:c" "t' k'" 0
local macro_rules | `(tactic| walk_at "call builtin:str.lstrip") => wl "call ( Value.builtin _ ) [ ( Value.str ( tx _ ) _ ) ( Value.str _ _ ) ]" "m_lstripP" "k1 _" "k1:c" "t' k'" 0
local macro_rules | `(tactic| walk_at "call builtin:str.rstrip") => wl "call ( Value.builtin _ ) [ ( Value.str ( tx _ ) _ ) ( Value.str _ _ ) ]" "m_rstripP" "k1 _" "k1:c" "t' k'" 0
local macro_rules | `(tactic| walk_at "subscriptTail") => wl "subscriptTail _ _ ( Value.str ( tx _ ) _ ) ( Value.int 0 _ )" "m_first" "k1 _ k2" "k1:s k2:u" "" 0
theorem fresh_Loops : True := by first | row_walk | trivial
local macro_rules | `(tactic| walk_at "none Loops 0") => `(tactic| fail)
section
-- needs: Txts
section
variable {prog : Program} {w : World} {A : Around} {E : Value → Shared → Prop} {s : Shared} {env : Env} {h₀ : Heap} {x : Str} {body : List Stmt} {Q : Flow → Shared → Prop}
/-- a for over a range, by what holds at each turn -/
theorem m_range {r : Addr} {a b c : Int} {t u v : Tok} {n : Nat} {m₀ : Str → Option Value} {news : List (Addr × Obj)} (J : Nat → (Str → Option Value) → List (Addr × Obj) → Prop)
    (hh : A.handled = none) (hr : IsRange s.heap r a b c t u v) (hsmall : Builtin.Range.small a b c = true) (hsz : Builtin.Range.rangeSize a b c = (n : Int)) (F : Fr h₀ env.locals s.heap m₀) (N : News h₀ env.locals s.heap news) (hj : J 0 m₀ news)
    (turn : ∀ i k t m₁ nx h tk own, i < n → k = a + (i : Int) * c → OwnOff own (nx.map (·.1)) → J i m₁ nx → Fr h₀ env.locals h (fun y => if y = x then some (.int k t) else m₁ y) → News h₀ env.locals h (nx ++ own) →
      wpAny (model prog w) A (execs body env) (InvPostG h₀ env.locals (J (i + 1)) own { s with heap := h, toks := tk } Q) E { s with heap := h, toks := tk })
    (done : ∀ m₁ nx h tk, J n m₁ nx → Fr h₀ env.locals h m₁ → News h₀ env.locals h nx → Q .next { s with heap := h, toks := tk }) :
    wpAny (model prog w) A (pyIter (.ref r)) (fun it s₂ => LoopAtV prog w A h₀ env x body Q E it s₂) E s := by
  refine wpAny_pyIter_range hr hsmall ?_
  have W : Walks prog w A s.heap.objs.size [s.heap.objs.size] [s.heap.objs.size] n (fun i v => i < n ∧ ∃ t, v = .int (a + i * c) t)
      (fun i h => IsRangeIter h s.heap.objs.size (a + (i : Nat) * c) ((n : Int) - (i : Nat)) c) := (Walks.range hh _ a c n).bound
  refine kdr_loop J W (fun _ h => h) (fun _ h => h) ?_ ?_ ?_ ?_ (by show IsRangeIter _ _ _ _ _; rw [hsz]; simpa using Heap.get?_push_size _ rfl) (F.push _) (fun p hp => ⟨Heap.get?_push_of_some _ (N p hp).1, (N p hp).2⟩) hj ?_ ?_
  · intro i h hi b hb
    rw [List.mem_singleton.mp hb]
    exact ⟨_, hi⟩
  · intro hm
    exact absurd F.ns.lt ((List.mem_singleton.mp hm) ▸ Nat.lt_irrefl _)
  · intro b hb
    rw [List.mem_singleton.mp hb]
    exact next_is_new F
  · intro p hp hI
    exact absurd (Heap.lt_size (N p hp).1) ((List.mem_singleton.mp hI) ▸ Nat.lt_irrefl _)
  · rintro i v m₁ nx h tk own hi ⟨_, t, rfl⟩ hoff hJ F₁ N₁
    exact turn i _ t m₁ nx h tk own hi rfl hoff hJ F₁ N₁
  · intro m₁ nx h tk hJ F₁ N₁
    exact done m₁ nx h tk hJ F₁ N₁
end
theorem size_hundred {b : Int} (h0 : 0 ≤ b) : Builtin.Range.rangeSize 0 b 100 = (((b.toNat + 99) / 100 : Nat) : Int) := by
  unfold Builtin.Range.rangeSize
  rw [if_pos (by decide)]
  split
  · omega
  · omega
theorem small_hundred {b : Int} (h0 : 0 ≤ b) (h1 : b ≤ 1000000) : Builtin.Range.small 0 b 100 = true := by
  unfold Builtin.Range.small
  rw [size_hundred h0]
  simp only [Builtin.Range.rangeFitsLong, Bool.and_eq_true, Bool.or_eq_true, decide_eq_true_eq, beq_iff_eq, show (100 : Int) > 0 by decide, if_true]
  omega
/-- a loop's state between two turns: the ledger, the names that turn, what holds -/
def MS {σ : Type} (Led : σ → List (Addr × Obj)) (ps : σ → List (Str × Value)) (x : Str) (stored : List Str) (m₀ : Str → Option Value) (P : σ → Prop) (m : Str → Option Value) (nx : List (Addr × Obj)) : Prop :=
  ∃ c : σ, nx = Led c ∧ (∀ p ∈ ps c, m p.1 = some p.2) ∧ (∀ z, z ≠ x → (∀ p ∈ ps c, z ≠ p.1) → stored.contains z = false → m z = m₀ z) ∧ P c
section
variable {prog : Program} {w : World} {A : Around} {E : Value → Shared → Prop} {s : Shared} {env : Env} {h₀ : Heap} {x : Str} {body : List Stmt} {Q : Flow → Shared → Prop}
theorem m_rangeS {σ : Type} {r : Addr} {a b c : Int} {t u v : Tok} {n : Nat} {m₀ : Str → Option Value} {news : List (Addr × Obj)} (Led : σ → List (Addr × Obj)) (ps : σ → List (Str × Value)) (stored : List Str) (P : Nat → σ → Prop) (c₀ : σ)
    (hh : A.handled = none) (hr : IsRange s.heap r a b c t u v) (hsmall : Builtin.Range.small a b c = true) (hsz : Builtin.Range.rangeSize a b c = (n : Int)) (F : Fr h₀ env.locals s.heap m₀) (N : News h₀ env.locals s.heap news)
    (hn : ∀ p ∈ Led c₀, p ∈ news) (hk : ∀ p ∈ ps c₀, m₀ p.1 = some p.2) (hp : P 0 c₀)
    (turn : ∀ i k t d (u : Str → Option Value) h tk own, i < n → k = a + (i : Int) * c → OwnOff own ((Led d).map (·.1)) → P i d →
      Fr h₀ env.locals h (fun y => if y = x then some (.int k t) else kstB (fun z => if stored.contains z then u z else m₀ z) (ps d) y) → News h₀ env.locals h (Led d ++ own) →
      wpAny (model prog w) A (execs body env) (InvPostG h₀ env.locals (MS Led ps x stored m₀ (P (i + 1))) own { s with heap := h, toks := tk } Q) E { s with heap := h, toks := tk })
    (done : ∀ d (u : Str → Option Value) h tk, P n d → Fr h₀ env.locals h (fun y => if y = x then u y else kstB (fun z => if stored.contains z then u z else m₀ z) (ps d) y) → News h₀ env.locals h (Led d) → Q .next { s with heap := h, toks := tk }) :
    wpAny (model prog w) A (pyIter (.ref r)) (fun it s₂ => LoopAtV prog w A h₀ env x body Q E it s₂) E s := by
  refine m_range (news := Led c₀) (fun i m nx => MS Led ps x stored m₀ (P i) m nx) hh hr hsmall hsz F (fun p hp => N p (hn p hp)) ⟨c₀, rfl, hk, fun _ _ _ _ => rfl, hp⟩ ?_ ?_
  · rintro i k t m₁ nx h tk own hi hk' hoff ⟨d, rfl, h1, h2, hp'⟩ F₁ N₁
    exact turn i k t d m₁ h tk own hi hk' hoff hp' (kst_fr h1 h2 F₁) N₁
  · rintro m₁ nx h tk ⟨d, rfl, h1, h2, hp'⟩ F₁ N₁
    exact done d m₁ h tk hp' (kst_frOut h1 h2 F₁) N₁
theorem m_listS {σ : Type} {l : Addr} {vs : List Value} {nn : Nat} {m₀ : Str → Option Value} {news : List (Addr × Obj)} (Led : σ → List (Addr × Obj)) (ps : σ → List (Str × Value)) (stored : List Str) (P : Nat → σ → Prop) (c₀ : σ)
    (hh : A.handled = none) (hl : ∀ d, (l, W.listOf vs.toArray nn) ∈ Led d) (F : Fr h₀ env.locals s.heap m₀) (N : News h₀ env.locals s.heap news)
    (hn : ∀ p ∈ Led c₀, p ∈ news) (hk : ∀ p ∈ ps c₀, m₀ p.1 = some p.2) (hp : P 0 c₀)
    (turn : ∀ i v d (u : Str → Option Value) h tk own, vs[i]? = some v → OwnOff own ((Led d).map (·.1)) → P i d →
      Fr h₀ env.locals h (fun y => if y = x then some v else kstB (fun z => if stored.contains z then u z else m₀ z) (ps d) y) → News h₀ env.locals h (Led d ++ own) →
      wpAny (model prog w) A (execs body env) (InvPostG h₀ env.locals (MS Led ps x stored m₀ (P (i + 1))) own { s with heap := h, toks := tk } Q) E { s with heap := h, toks := tk })
    (done : ∀ d (u : Str → Option Value) h tk, P vs.length d → Fr h₀ env.locals h (fun y => if y = x then u y else kstB (fun z => if stored.contains z then u z else m₀ z) (ps d) y) → News h₀ env.locals h (Led d) → Q .next { s with heap := h, toks := tk }) :
    wpAny (model prog w) A (pyIter (.ref l)) (fun it s₂ => LoopAtV prog w A h₀ env x body Q E it s₂) E s := by
  refine kdl_iter (news := Led c₀) (fun i m nx => MS Led ps x stored m₀ (P i) m nx) hh (hl c₀) F (fun p hp => N p (hn p hp)) ⟨c₀, rfl, hk, fun _ _ _ _ => rfl, hp⟩ ?_ ?_
  · rintro i v m₁ nx h tk own hv hoff _ ⟨d, rfl, h1, h2, hp'⟩ F₁ N₁
    refine wpAny_mono (turn i v d m₁ h tk own hv hoff hp' (kst_fr h1 h2 F₁) N₁) (fun f s₂ p => ?_) fun _ _ e => e
    have up : InvEndG h₀ env.locals (MS Led ps x stored m₀ (P (i + 1))) own { s with heap := h, toks := tk } s₂ →
        InvEndG h₀ env.locals (fun m' nx => (l, W.listOf vs.toArray nn) ∈ nx ∧ MS Led ps x stored m₀ (P (i + 1)) m' nx) own { s with heap := h, toks := tk } s₂ := by
      rintro ⟨h', tk', m', news', nx', e', F', N', hn', ho', ha, hS⟩
      refine ⟨h', tk', m', news', nx', e', F', N', hn', ho', ha, ?_, hS⟩
      obtain ⟨c', rfl, _⟩ := hS
      exact hl c'
    cases f with
    | ret v => exact p
    | brk => exact p
    | next => exact up p
    | cont => exact up p
  · rintro m₁ nx h tk ⟨d, rfl, h1, h2, hp'⟩ F₁ N₁
    exact done d m₁ h tk hp' (kst_frOut h1 h2 F₁) N₁
end
theorem m_endS {σ : Type} {h₀ : Heap} {L : Addr} {Led : σ → List (Addr × Obj)} {ps : σ → List (Str × Value)} {x : Str} {stored : List Str} {m₀ m' : Str → Option Value} {P : σ → Prop} {own news' : List (Addr × Obj)} {s₁ : Shared} {h' : Heap} {tk : Nat} (c' : σ)
    (F : Fr h₀ L h' m') (N : News h₀ L h' news') (hn : ∀ p ∈ Led c', p ∈ news') (ho : ∀ p ∈ own, p ∈ news') (ha : OwnOff own ((Led c').map (·.1)))
    (hk : ∀ p ∈ ps c', m' p.1 = some p.2) (hr : ∀ z, z ≠ x → (∀ p ∈ ps c', z ≠ p.1) → stored.contains z = false → m' z = m₀ z) (hp : P c') :
    InvEndG h₀ L (MS Led ps x stored m₀ P) own s₁ { s₁ with heap := h', toks := tk } :=
  ⟨h', tk, m', news', Led c', rfl, F, N, hn, ho, ha, c', rfl, hk, hr, hp⟩

end
theorem fresh_Thing : True := by first | row_walk | trivial
local macro_rules | `(tactic| walk_at "none Thing 0") => `(tactic| fail)
section
-- needs: Loops
/-- what figures are worth -/
def valL (cs : List Nat) : Nat := cs.foldl (fun acc c => acc * 10 + (c - 48)) 0
theorem valL_from (cs : List Nat) : ∀ a : Nat, cs.foldl (fun acc c => acc * 10 + (c - 48)) a = a * 10 ^ cs.length + valL cs := by
  induction cs with
  | nil => intro a; simp [valL]
  | cons c r ih =>
    intro a
    show r.foldl _ (a * 10 + (c - 48)) = _
    rw [ih]
    have e : valL (c :: r) = r.foldl (fun acc c => acc * 10 + (c - 48)) (0 * 10 + (c - 48)) := rfl
    rw [e, ih, List.length_cons, Nat.pow_succ, Nat.add_mul, Nat.zero_mul, Nat.zero_add, Nat.add_assoc, Nat.mul_assoc, Nat.mul_comm 10]
theorem valL_append (a b : List Nat) : valL (a ++ b) = valL a * 10 ^ b.length + valL b := by
  show (a ++ b).foldl _ 0 = _
  rw [List.foldl_append, valL_from]
  rfl
theorem valL_digs (n : Nat) : valL (digs n) = n := PySem.W.KIN.val_back n
theorem valL_take (cs : List Nat) (k : Nat) : valL (cs.take k) ≤ valL cs := by
  have e : cs = cs.take k ++ cs.drop k := (List.take_append_drop k cs).symm
  have q := valL_append (cs.take k) (cs.drop k)
  rw [← e] at q
  rw [q]
  have := ten_ge (cs.drop k).length
  calc valL (cs.take k) = valL (cs.take k) * 1 := (Nat.mul_one _).symm
    _ ≤ valL (cs.take k) * 10 ^ (cs.drop k).length := Nat.mul_le_mul_left _ this
    _ ≤ _ := Nat.le_add_right _ _
theorem val_turn (cs : List Nat) (i : Nat) (k : Int) (hk : k = 0 + (i : Int) * 100) (w : Int) (hw : w = (valL (cs.take (100 * i)) : Nat)) :
    w * 10 ^ ((((cs.drop k.toNat).take 100).length : Nat) : Int).toNat + (valL ((cs.drop k.toNat).take 100) : Nat) = (valL (cs.take (100 * (i + 1))) : Nat) := by
  have e1 : k.toNat = 100 * i := by omega
  have e2 : cs.take (100 * (i + 1)) = cs.take (100 * i) ++ (cs.drop (100 * i)).take 100 := by
    rw [Nat.mul_add, Nat.mul_one, List.take_add]
  rw [e1, e2, valL_append, hw, Int.toNat_natCast]
  push_cast
  rfl
theorem bt_of {n m : Nat} (h : n ≤ m) (hm : m < 10 ^ 9500) : Bt 38000 (n : Int) := by
  unfold Bt
  rw [Int.natAbs_natCast]
  refine Nat.lt_of_le_of_lt h (Nat.lt_of_lt_of_le hm ?_)
  have : (2 : Nat) ^ 38000 = (2 ^ 4) ^ 9500 := by rw [← Nat.pow_mul]
  rw [this]
  exact Nat.pow_le_pow_left (by decide) _
theorem bt_ten {k : Nat} (h : k ≤ 100) : Bt 404 (10 ^ k) := by
  have := Bt.pow (b := 10) (c := 4) (e := k) (R := 101) (by decide) (by decide) (by omega)
  simpa using this
section
variable {prog : Program} {w : World} {A : Around} {E : Value → Shared → Prop} {s : Shared} {h₀ : Heap} {L : Addr} {m : Str → Option Value} {news : List (Addr × Obj)} {c : List Nat} {t : Tok} {Q : Value → Shared → Prop}
theorem m_sliceD {value slice : PySem.Expr} {i j : Int} {ui uj : Tok} (hF : Fr h₀ L s.heap m) (hN : News h₀ L s.heap news) (hz : c.length ≤ 16777216) (h0 : 0 ≤ i) (h1 : i < (c.length : Int)) (hj : j = i + 100) (hall : ∀ a ∈ c, 48 ≤ a ∧ a ≤ 57)
    (h : ∀ h' t' k part, part = (c.drop i.toNat).take 100 → 1 ≤ part.length → part.length ≤ 100 → (∀ a ∈ part, 48 ≤ a ∧ a ≤ 57) → Fr h₀ L h' m → News h₀ L h' news → Q (.str (tx part) t') { s with heap := h', toks := k })
    (hs : subscripted slice false (.str (tx c) t) (.ref s.heap.objs.size) = operate [.ref s.heap.objs.size, .str (tx c) t] (getItem (.str (tx c) t) (.ref s.heap.objs.size)))
    (ht : ∀ r, letTemporaryGo value (.str (tx c) t) r = pure ()) :
    wpAny (model prog w) A (subscriptTail value slice (.str (tx c) t) (.ref s.heap.objs.size)) Q E { s with heap := s.heap.push { cls := .type "slice", data := .fields #[.int i ui, .int j uj, .none] } } := by
  subst hj
  refine m_sliceP hF hN hz h0 (by omega) (by omega) (fun h' t' k F N => ?_) hs ht
  have e : (i + 100 - i).toNat = 100 := by omega
  rw [e]
  refine h h' t' k _ rfl ?_ ?_ ?_ F N
  · rw [List.length_take, List.length_drop]; omega
  · rw [List.length_take]; omega
  · intro a ha
    exact hall a (List.mem_of_mem_drop (List.mem_of_mem_take ha))
theorem m_int (h0 : 1 ≤ c.length) (h1 : c.length ≤ 100) (hall : ∀ a ∈ c, 48 ≤ a ∧ a ≤ 57) (h : Q (.int (valL c : Nat) s.toks) { s with toks := s.toks + 1 }) :
    wpAny (model prog w) A (call (.type "int") [.str (tx c) t]) Q E s := by
  refine PySem.W.KIN.call_text (n := ((valL c : Nat) : Int)) ?_ (by rw [tx_length]; omega) h
  refine intText_digits (x := tx c) ?_ ?_ ?_
  · intro a ha; exact hall a ha
  · rw [tx_toList]
    intro e; rw [e] at h0; exact absurd h0 (by decide)
  · rw [tx_length]; omega
end
section
set_option maxHeartbeats 8000000 in
theorem thing_none {w : World} {mean : ExcName → Option Value} {mg mb : Str → Option Value}
    {dp un : Nat} {gd : Option (List Code)} {cn : Str} {cs : Scope} {a : Addr} {ccd : Value} {cl : List (Str × Addr)} {outer : List Env} {A₀ : Around} {base h₀ : Heap} {L : Addr} {m : Str → Option Value} {s : Shared}
    {Q E : Value → Shared → Prop} {news : List (Addr × Obj)} {tw : Tok}
    (B : Below A₀ base outer h₀) (F : Fr h₀ L s.heap m) (X : (Mine.hd.heap_39 w.params).In h₀) (N : News h₀ L s.heap news) (T : Top Mine.vw (looseW Mine.vw [Str.ofString "ROUND"]) mean mg mb h₀) (hk : cs.kind = .function)
    (hd : dp + 1 < 1000) (hu : un + 16 < 9900)
    (hret : ∀ h' tk', Fr h₀ L h' m → News h₀ L h' news → KeepH s.heap h' → Q .none { s with heap := h', toks := tk' }) :
    wpAny (model PySem.Challenge.rw_sj0098_01.row.prog w) (ktrTop dp un gd cn cs L a ccd cl outer) (call (.ref 288) [.str (tx [45]) tw]) Q E s := by
  rw [← lit_dash]
  refine wpAny_call ?_
  w_strict (
    k_dflt kbo_bools
    kbt_split
    exact hret _ _ (by k_asm) (by k_asm) (keep_of (by assumption) N (by k_asm) (by k_asm) fun _ h => h))
set_option maxHeartbeats 8000000 in
theorem thing_word {w : World} {mean : ExcName → Option Value} {mg mb : Str → Option Value}
    {dp un : Nat} {gd : Option (List Code)} {cn : Str} {cs : Scope} {a : Addr} {ccd : Value} {cl : List (Str × Addr)} {outer : List Env} {A₀ : Around} {base h₀ : Heap} {L : Addr} {m : Str → Option Value} {s : Shared}
    {Q E : Value → Shared → Prop} {news : List (Addr × Obj)} {tw : Tok} {c : List Nat} (hc : c ∈ WL)
    (B : Below A₀ base outer h₀) (F : Fr h₀ L s.heap m) (X : (Mine.hd.heap_39 w.params).In h₀) (N : News h₀ L s.heap news) (T : Top Mine.vw (looseW Mine.vw [Str.ofString "ROUND"]) mean mg mb h₀) (hk : cs.kind = .function)
    (hd : dp + 1 < 1000) (hu : un + 16 < 9900)
    (hret : ∀ h' t tk', Fr h₀ L h' m → News h₀ L h' news → KeepH s.heap h' → Q (.str (tx c) t) { s with heap := h', toks := tk' }) :
    wpAny (model PySem.Challenge.rw_sj0098_01.row.prog w) (ktrTop dp un gd cn cs L a ccd cl outer) (call (.ref 288) [.str (tx c) tw]) Q E s := by
  simp only [WL, List.mem_cons, List.not_mem_nil, or_false] at hc
  rcases hc with rfl | rfl | rfl | rfl | rfl | rfl
  · rw [show tx [108, 101] = PySem.Str.ofString "le" by decide] at hret ⊢
    refine wpAny_call ?_
    w_strict (
      k_dflt kbo_bools
      kbt_split
      exact hret _ _ _ (by k_asm) (by k_asm) (keep_of (by assumption) N (by k_asm) (by k_asm) fun _ h => h))
  · rw [show tx [97, 45, 98] = PySem.Str.ofString "a-b" by decide] at hret ⊢
    refine wpAny_call ?_
    w_strict (
      k_dflt kbo_bools
      kbt_split
      exact hret _ _ _ (by k_asm) (by k_asm) (keep_of (by assumption) N (by k_asm) (by k_asm) fun _ h => h))
  · rw [show tx [120, 49] = PySem.Str.ofString "x1" by decide] at hret ⊢
    refine wpAny_call ?_
    w_strict (
      k_dflt kbo_bools
      kbt_split
      exact hret _ _ _ (by k_asm) (by k_asm) (keep_of (by assumption) N (by k_asm) (by k_asm) fun _ h => h))
  · rw [show tx [45, 120] = PySem.Str.ofString "-x" by decide] at hret ⊢
    refine wpAny_call ?_
    w_strict (
      k_dflt kbo_bools
      kbt_split
      exact hret _ _ _ (by k_asm) (by k_asm) (keep_of (by assumption) N (by k_asm) (by k_asm) fun _ h => h))
  · rw [show tx [45, 45] = PySem.Str.ofString "--" by decide] at hret ⊢
    refine wpAny_call ?_
    w_strict (
      k_dflt kbo_bools
      kbt_split
      exact hret _ _ _ (by k_asm) (by k_asm) (keep_of (by assumption) N (by k_asm) (by k_asm) fun _ h => h))
  · rw [show tx [78, 111, 110, 101] = PySem.Str.ofString "None" by decide] at hret ⊢
    refine wpAny_call ?_
    w_strict (
      k_dflt kbo_bools
      kbt_split
      exact hret _ _ _ (by k_asm) (by k_asm) (keep_of (by assumption) N (by k_asm) (by k_asm) fun _ h => h))
local macro_rules | `(tactic| kct_strs) => ws
local macro_rules | `(tactic| walk_at "subscriptTail") => wl "subscriptTail _ ( PySem.Expr.Slice ( some _ ) ( some _ ) none _ ) ( Value.str ( tx _ ) _ ) ( Value.ref _ )" "m_sliceD" "k1 k2 k3 k4 k5 k6 k7 _ s t" "k1:a k2:a k3:c k4:o k5:o k6:f k7:s s:u t:p" "h' t' k' part' hp1' hp2' hp3' hp4' F' N'" 0
local macro_rules | `(tactic| walk_at "call type:int") => wl "call ( Value.type 'int ) [ ( Value.str ( tx _ ) _ ) ]" "m_int" "k1 k2 k3 _" "k1:s k2:s k3:s" "" 0
local macro_rules | `(tactic| bits_fit) => `(tactic| first | exact Bt.bits (k := 38000) (by assumption) (by decide) | exact Bt.bits (bt_ten (by omega)) (by decide))
local macro_rules | `(tactic| walk_at "compareOp Eq str str") => wl "" "m_eqF" "k1 k2 k3 _" "k1:R|lit_dash/|lit_open/|lit_close/|lit_sp/|lit_zero/|lit_nil/ k2:R|lit_dash/|lit_open/|lit_close/|lit_sp/|lit_zero/|lit_nil/ k3:s|d" "" 0
local macro_rules | `(tactic| walk_at "compareOp Eq str str") => wl "" "m_eqT" "k1 k2 k3 _" "k1:R|lit_dash/|lit_open/|lit_close/|lit_sp/|lit_zero/|lit_nil/ k2:R|lit_dash/|lit_open/|lit_close/|lit_sp/|lit_zero/|lit_nil/ k3:s|d" "" 0
local macro_rules | `(tactic| walk_at "compareOp NotEq str str") => wl "" "m_neF" "k1 k2 k3 _" "k1:R|lit_dash/|lit_open/|lit_close/|lit_sp/|lit_zero/|lit_nil/ k2:R|lit_dash/|lit_open/|lit_close/|lit_sp/|lit_zero/|lit_nil/ k3:s|d" "" 0
local macro_rules | `(tactic| walk_at "compareOp NotEq str str") => wl "" "m_neT" "k1 k2 k3 _" "k1:R|lit_dash/|lit_open/|lit_close/|lit_sp/|lit_zero/|lit_nil/ k2:R|lit_dash/|lit_open/|lit_close/|lit_sp/|lit_zero/|lit_nil/ k3:s|d" "" 0
set_option maxHeartbeats 8000000 in
theorem thing_pos {w : World} {mean : ExcName → Option Value} {mg mb : Str → Option Value}
    {dp un : Nat} {gd : Option (List Code)} {cn : Str} {cs : Scope} {a : Addr} {ccd : Value} {cl : List (Str × Addr)} {outer : List Env} {A₀ : Around} {base h₀ : Heap} {L : Addr} {m : Str → Option Value} {s : Shared}
    {Q E : Value → Shared → Prop} {news : List (Addr × Obj)} {tw : Tok} {n : Nat} (hn : 0 < n) (hi : n < 10 ^ 9500)
    (B : Below A₀ base outer h₀) (F : Fr h₀ L s.heap m) (X : (Mine.hd.heap_39 w.params).In h₀) (N : News h₀ L s.heap news) (T : Top Mine.vw (looseW Mine.vw [Str.ofString "ROUND"]) mean mg mb h₀) (hk : cs.kind = .function)
    (hd : dp + 1 < 1000) (hu : un + 16 < 9900)
    (hret : ∀ h' t tk', Fr h₀ L h' m → News h₀ L h' news → KeepH s.heap h' → Q (.int n t) { s with heap := h', toks := tk' }) :
    wpAny (model PySem.Challenge.rw_sj0098_01.row.prog w) (ktrTop dp un gd cn cs L a ccd cl outer) (call (.ref 288) [.str (tx (digs n)) tw]) Q E s := by
  have hlen := digs_len (k := 9500) (by decide) hi
  have hpos := digs_pos n
  have hall := digs_all n
  obtain ⟨c, r, hcr, hc48⟩ := digs_head hn
  have hc := hall c (by rw [hcr]; exact .head _)
  have f1 : digs n ≠ [45] := by
    rw [hcr]; intro e; injection e with e _; omega
  have f2 : (digs n).take 1 ≠ [45] := by
    rw [hcr]; intro e; injection e with e _; omega
  have f3 := digs_ne n
  have f4 : [c] ≠ [48] := by intro e; injection e with e _; exact hc48 e
  have f5 : [c] ≠ [45] := by intro e; injection e with e _; omega
  refine wpAny_call ?_
  w_strict (
    k_dflt kbo_bools
    kbt_split
    (rename Fr _ _ _ _ => F9)
    (with_unfolding_all refine' For_invVF F9 ?k1 ?k2 ?_; (case k1 => exact rfl); (case k2 => exact rfl); k_whole)
    kbt_split
    (rename IsRange _ _ _ _ _ _ _ _ => hR)
    (rename Fr _ _ _ _ => F9)
    (rename News _ _ _ _ => N9)
    refine' m_rangeS (σ := Int × Tok) (fun _ => news) (fun d => [(Str.ofString "worth", .int d.1 d.2)]) [Str.ofString "part"] (fun i d => d.1 = (valL ((digs n).take (100 * i)) : Nat) ∧ Bt 38000 d.1) (0, _) rfl hR (small_hundred (by omega) (by omega)) (size_hundred (by omega)) F9 N9 (fun _ h => h) ?hk ⟨rfl, bt_of (Nat.zero_le n) hi⟩ ?turn ?done
    (case hk => kst_all)
    · intro i k t d u h tk own hi9 hk9 hoff hP F1 N1
      dsimp only [kstB] at F1
      obtain ⟨hP, hB⟩ := hP
      clear F9 N9
      kbt_split
      (rename _ = List.take 100 _ => hp1)
      subst hp1
      refine' m_endS (_, _) (by k_asm) (by k_asm) (fun p hp => List.mem_append_left _ hp) (fun p hp => List.mem_append_right _ hp) hoff ?hk ?hr ?hP
      (case hk => kst_all)
      (case hr => kst_same)
      (case hP =>
        have e := val_turn (digs n) i k hk9 d.1 hP
        refine ⟨e, ?_⟩
        have q := bt_of (valL_take (digs n) (100 * (i + 1))) (by rw [valL_digs]; exact hi)
        rw [← e] at q
        exact q)
    · intro d u h tk hP F1 N1
      dsimp only [kstB] at F1
      obtain ⟨hP, _⟩ := hP
      rw [List.take_of_length_le (by omega), valL_digs] at hP
      clear F9 N9
      kbt_split
      rw [hP]
      exact hret _ _ _ (by k_asm) (by k_asm) (keep_of (by assumption) N (by k_asm) (by k_asm) fun _ h => h))
set_option maxHeartbeats 8000000 in
theorem thing_zero {w : World} {mean : ExcName → Option Value} {mg mb : Str → Option Value}
    {dp un : Nat} {gd : Option (List Code)} {cn : Str} {cs : Scope} {a : Addr} {ccd : Value} {cl : List (Str × Addr)} {outer : List Env} {A₀ : Around} {base h₀ : Heap} {L : Addr} {m : Str → Option Value} {s : Shared}
    {Q E : Value → Shared → Prop} {news : List (Addr × Obj)} {tw : Tok} {c : List Nat} (hc9 : c = [48])
    (B : Below A₀ base outer h₀) (F : Fr h₀ L s.heap m) (X : (Mine.hd.heap_39 w.params).In h₀) (N : News h₀ L s.heap news) (T : Top Mine.vw (looseW Mine.vw [Str.ofString "ROUND"]) mean mg mb h₀) (hk : cs.kind = .function)
    (hd : dp + 1 < 1000) (hu : un + 16 < 9900)
    (hret : ∀ h' t tk', Fr h₀ L h' m → News h₀ L h' news → KeepH s.heap h' → Q (.int 0 t) { s with heap := h', toks := tk' }) :
    wpAny (model PySem.Challenge.rw_sj0098_01.row.prog w) (ktrTop dp un gd cn cs L a ccd cl outer) (call (.ref 288) [.str (tx c) tw]) Q E s := by
  have hlen : c.length ≤ 9500 := by rw [hc9]; decide
  have hpos : 1 ≤ c.length := by rw [hc9]; decide
  have hall : ∀ a ∈ c, 48 ≤ a ∧ a ≤ 57 := by rw [hc9]; decide
  have hv : valL c = 0 := by rw [hc9]; rfl
  have f1 : c ≠ [45] := by rw [hc9]; decide
  have f2 : c.take 1 ≠ [45] := by rw [hc9]; decide
  have f3 : c ≠ [] := by rw [hc9]; decide
  have f5 : [48] ≠ [45] := by decide
  refine wpAny_call ?_
  w_strict (
    k_dflt kbo_bools
    kbt_split
    (rename Fr _ _ _ _ => F9)
    (with_unfolding_all refine' For_invVF F9 ?k1 ?k2 ?_; (case k1 => exact rfl); (case k2 => exact rfl); k_whole)
    kbt_split
    (rename IsRange _ _ _ _ _ _ _ _ => hR)
    (rename Fr _ _ _ _ => F9)
    (rename News _ _ _ _ => N9)
    refine' m_rangeS (σ := Int × Tok) (fun _ => news) (fun d => [(Str.ofString "worth", .int d.1 d.2)]) [Str.ofString "part"] (fun i d => d.1 = (valL ((c).take (100 * i)) : Nat) ∧ Bt 38000 d.1) (0, _) rfl hR (small_hundred (by omega) (by omega)) (size_hundred (by omega)) F9 N9 (fun _ h => h) ?hk ⟨rfl, bt_of (Nat.zero_le 0) (ten_ge 9500)⟩ ?turn ?done
    (case hk => kst_all)
    · intro i k t d u h tk own hi9 hk9 hoff hP F1 N1
      dsimp only [kstB] at F1
      obtain ⟨hP, hB⟩ := hP
      clear F9 N9
      kbt_split
      (rename _ = List.take 100 _ => hp1)
      subst hp1
      refine' m_endS (_, _) (by k_asm) (by k_asm) (fun p hp => List.mem_append_left _ hp) (fun p hp => List.mem_append_right _ hp) hoff ?hk ?hr ?hP
      (case hk => kst_all)
      (case hr => kst_same)
      (case hP =>
        have e := val_turn (c) i k hk9 d.1 hP
        refine ⟨e, ?_⟩
        have q := bt_of (valL_take (c) (100 * (i + 1))) (by rw [hv]; exact ten_ge 9500)
        rw [← e] at q
        exact q)
    · intro d u h tk hP F1 N1
      dsimp only [kstB] at F1
      obtain ⟨hP, _⟩ := hP
      rw [List.take_of_length_le (by omega), hv] at hP
      clear F9 N9
      kbt_split
      rw [hP]
      exact hret _ _ _ (by k_asm) (by k_asm) (keep_of (by assumption) N (by k_asm) (by k_asm) fun _ h => h))
theorem m_sliceC {prog : Program} {w : World} {A : Around} {E : Value → Shared → Prop} {s : Shared} {h₀ : Heap} {L : Addr} {m : Str → Option Value} {news : List (Addr × Obj)} {a : Nat} {r : List Nat} {t : Tok} {Q : Value → Shared → Prop} {value slice : PySem.Expr} {ui : Tok} (hF : Fr h₀ L s.heap m) (hN : News h₀ L s.heap news) (hz : (a :: r).length ≤ 16777216) (h : ∀ h' t' k, Fr h₀ L h' m → News h₀ L h' news → Q (.str (tx r) t') { s with heap := h', toks := k })
    (hs : subscripted slice false (.str (tx (a :: r)) t) (.ref s.heap.objs.size) = operate [.ref s.heap.objs.size, .str (tx (a :: r)) t] (getItem (.str (tx (a :: r)) t) (.ref s.heap.objs.size)))
    (ht : ∀ q, letTemporaryGo value (.str (tx (a :: r)) t) q = pure ()) :
    wpAny (model prog w) A (subscriptTail value slice (.str (tx (a :: r)) t) (.ref s.heap.objs.size)) Q E { s with heap := s.heap.push { cls := .type "slice", data := .fields #[.int 1 ui, .none, .none] } } :=
  m_sliceT hF hN hz (by simp) h hs ht
local macro_rules | `(tactic| walk_at "subscriptTail") => wl "subscriptTail _ ( PySem.Expr.Slice ( some _ ) none none _ ) ( Value.str ( tx ( List.cons _ _ ) ) _ ) ( Value.ref _ )" "m_sliceC" "k1 k2 k3 _ s t" "k1:a k2:a k3:c s:u t:p" "h' t' k' F' N'" 0
set_option maxHeartbeats 8000000 in
theorem thing_neg {w : World} {mean : ExcName → Option Value} {mg mb : Str → Option Value}
    {dp un : Nat} {gd : Option (List Code)} {cn : Str} {cs : Scope} {a : Addr} {ccd : Value} {cl : List (Str × Addr)} {outer : List Env} {A₀ : Around} {base h₀ : Heap} {L : Addr} {m : Str → Option Value} {s : Shared}
    {Q E : Value → Shared → Prop} {news : List (Addr × Obj)} {tw : Tok} {n : Nat} (hn : 0 < n) (hi : n < 10 ^ 9500)
    (B : Below A₀ base outer h₀) (F : Fr h₀ L s.heap m) (X : (Mine.hd.heap_39 w.params).In h₀) (N : News h₀ L s.heap news) (T : Top Mine.vw (looseW Mine.vw [Str.ofString "ROUND"]) mean mg mb h₀) (hk : cs.kind = .function)
    (hd : dp + 1 < 1000) (hu : un + 16 < 9900)
    (hret : ∀ h' t tk', Fr h₀ L h' m → News h₀ L h' news → KeepH s.heap h' → Q (.int (-(n : Int)) t) { s with heap := h', toks := tk' }) :
    wpAny (model PySem.Challenge.rw_sj0098_01.row.prog w) (ktrTop dp un gd cn cs L a ccd cl outer) (call (.ref 288) [.str (tx (45 :: digs n)) tw]) Q E s := by
  have hlen := digs_len (k := 9500) (by decide) hi
  have hpos := digs_pos n
  have hall := digs_all n
  obtain ⟨c, r, hcr, hc48⟩ := digs_head hn
  have hc := hall c (by rw [hcr]; exact .head _)
  have f1 : 45 :: digs n ≠ [45] := by
    rw [hcr]; intro e; injection e with _ e; cases e
  have f2 : (45 :: digs n).take 1 = [45] := rfl
  have f6 : 45 :: digs n = 45 :: digs n := rfl
  have f3 := digs_ne n
  have f4 : [c] ≠ [48] := by intro e; injection e with e _; exact hc48 e
  have f5 : [c] ≠ [45] := by intro e; injection e with e _; omega
  refine wpAny_call ?_
  w_strict (
    k_dflt kbo_bools
    kbt_split
    (rename Fr _ _ _ _ => F9)
    (with_unfolding_all refine' For_invVF F9 ?k1 ?k2 ?_; (case k1 => exact rfl); (case k2 => exact rfl); k_whole)
    kbt_split
    (rename IsRange _ _ _ _ _ _ _ _ => hR)
    (rename Fr _ _ _ _ => F9)
    (rename News _ _ _ _ => N9)
    refine' m_rangeS (σ := Int × Tok) (fun _ => news) (fun d => [(Str.ofString "worth", .int d.1 d.2)]) [Str.ofString "part"] (fun i d => d.1 = (valL ((digs n).take (100 * i)) : Nat) ∧ Bt 38000 d.1) (0, _) rfl hR (small_hundred (by omega) (by omega)) (size_hundred (by omega)) F9 N9 (fun _ h => h) ?hk ⟨rfl, bt_of (Nat.zero_le n) hi⟩ ?turn ?done
    (case hk => kst_all)
    · intro i k t d u h tk own hi9 hk9 hoff hP F1 N1
      dsimp only [kstB] at F1
      obtain ⟨hP, hB⟩ := hP
      clear F9 N9
      kbt_split
      (rename _ = List.take 100 _ => hp1)
      subst hp1
      refine' m_endS (_, _) (by k_asm) (by k_asm) (fun p hp => List.mem_append_left _ hp) (fun p hp => List.mem_append_right _ hp) hoff ?hk ?hr ?hP
      (case hk => kst_all)
      (case hr => kst_same)
      (case hP =>
        have e := val_turn (digs n) i k hk9 d.1 hP
        refine ⟨e, ?_⟩
        have q := bt_of (valL_take (digs n) (100 * (i + 1))) (by rw [valL_digs]; exact hi)
        rw [← e] at q
        exact q)
    · intro d u h tk hP F1 N1
      dsimp only [kstB] at F1
      obtain ⟨hP, _⟩ := hP
      rw [List.take_of_length_le (by omega), valL_digs] at hP
      clear F9 N9
      kbt_split
      rw [hP]
      exact hret _ _ _ (by k_asm) (by k_asm) (keep_of (by assumption) N (by k_asm) (by k_asm) fun _ h => h))
end
/-- what the reader makes of a leaf's text -/
theorem thing_spec {w : World} {mean : ExcName → Option Value} {mg mb : Str → Option Value}
    {dp un : Nat} {gd : Option (List Code)} {cn : Str} {cs : Scope} {a : Addr} {ccd : Value} {cl : List (Str × Addr)} {outer : List Env} {A₀ : Around} {base h₀ : Heap} {L : Addr} {m : Str → Option Value} {s : Shared}
    {Q E : Value → Shared → Prop} {news : List (Addr × Obj)} {tw : Tok} {d : Dat} (hok : NoteOk 0 d)
    (B : Below A₀ base outer h₀) (F : Fr h₀ L s.heap m) (X : (Mine.hd.heap_39 w.params).In h₀) (N : News h₀ L s.heap news) (T : Top Mine.vw (looseW Mine.vw [Str.ofString "ROUND"]) mean mg mb h₀) (hk : cs.kind = .function)
    (hd : dp + 1 < 1000) (hu : un + 16 < 9900)
    (hret : ∀ v h' tk', DatIn [] v d → Fr h₀ L h' m → News h₀ L h' news → KeepH s.heap h' → Q v { s with heap := h', toks := tk' }) :
    wpAny (model PySem.Challenge.rw_sj0098_01.row.prog w) (ktrTop dp un gd cn cs L a ccd cl outer) (call (.ref 288) [.str (tx (noteTx d)) tw]) Q E s := by
  cases hok with
  | none => exact thing_none B F X N T hk hd hu fun h' tk' F' N' K => hret _ h' tk' .none F' N' K
  | str _ c hc => exact thing_word hc B F X N T hk hd hu fun h' t tk' F' N' K => hret _ h' tk' (.str _ t) F' N' K
  | int _ i hi =>
    rw [noteTx, intTx]
    by_cases h0 : i < 0
    · rw [if_pos h0]
      refine thing_neg (n := (-i).toNat) (by omega) (by unfold Small at hi; exact Nat.lt_of_le_of_lt (by omega) hi) B F X N T hk hd hu fun h' t tk' F' N' K => ?_
      have e : -(((-i).toNat : Nat) : Int) = i := by omega
      rw [e]
      exact hret _ h' tk' (.int i t) F' N' K
    · rw [if_neg h0]
      by_cases h1 : i = 0
      · subst h1
        exact thing_zero (c := digs (0 : Int).toNat) rfl B F X N T hk hd hu fun h' t tk' F' N' K => hret _ h' tk' (.int 0 t) F' N' K
      · refine thing_pos (n := i.toNat) (by omega) (by unfold Small at hi; exact Nat.lt_of_le_of_lt (by omega) hi) B F X N T hk hd hu fun h' t tk' F' N' K => ?_
        have e : ((i.toNat : Nat) : Int) = i := by omega
        rw [e]
        exact hret _ h' tk' (.int i t) F' N' K

end
theorem fresh_Nums : True := by first | row_walk | trivial
local macro_rules | `(tactic| walk_at "none Nums 0") => `(tactic| fail)
local macro_rules | `(tactic| walk_at "none Nums 1") => `(tactic| fail)
local macro_rules | `(tactic| walk_at "none Nums 2") => `(tactic| fail)
local macro_rules | `(tactic| walk_at "none Nums 3") => `(tactic| fail)
local macro_rules | `(tactic| walk_at "none Nums 4") => `(tactic| fail)
local macro_rules | `(tactic| walk_at "none Nums 5") => `(tactic| fail)
local macro_rules | `(tactic| walk_at "none Nums 6") => `(tactic| fail)
local macro_rules | `(tactic| walk_at "none Nums 7") => `(tactic| fail)
section
-- needs: Thing
section
variable {prog : Program} {w : World} {A : Around} {E : Value → Shared → Prop} {s : Shared} {h₀ : Heap} {L : Addr} {m : Str → Option Value} {news : List (Addr × Obj)} {x y : PySem.Str} {t u : Tok} {Q : Value → Shared → Prop}
theorem m_split {pre post : List Nat} {μ : Nat} {ws : List (List Nat)} (hF : Fr h₀ L s.heap m) (hN : News h₀ L s.heap news) (hx : x = tx (joinL (pre ++ μ :: post) ws)) (hy : y = tx (pre ++ μ :: post))
    (hpre : μ ∉ pre) (hs : ∀ a ∈ pre ++ μ :: post, a < 256) (hne : ws ≠ []) (hf : ∀ w ∈ ws, μ ∉ w) (hz : (joinL (pre ++ μ :: post) ws).length + 2 ≤ 16777216)
    (h : ∀ D vs h' k, TxAll vs ws → Fr h₀ L h' m → News h₀ L h' ((D, W.listOf vs.toArray 0) :: news) → (∀ p ∈ news, p.1 < D) → Q (.ref D) { s with heap := h', toks := k }) :
    wpAny (model prog w) A (call (.builtin "str.split") [.str x t, .str y u]) Q E s := by
  subst hx; subst hy
  refine splitN1 hF hN (by rw [tx_length]; simp) (fun l h' k e F' N' => ?_) (by rw [tx_length, sizeLine_eq]; exact hz)
  rw [split_tx hpre hs hne hf] at e
  exact h _ _ _ _ ⟨l, rfl, e⟩ F' N' fun p hp => Heap.lt_size (hN p hp).1
theorem m_splitW {ws : List (List Nat)} (hF : Fr h₀ L s.heap m) (hN : News h₀ L s.heap news) (hx : x = tx (joinL [32] ws)) (hy : y = tx [32]) (hne : ws ≠ []) (hf : ∀ w ∈ ws, 32 ∉ w) (hz : (joinL [32] ws).length + 2 ≤ 16777216)
    (h : ∀ D vs h' k, TxAll vs ws → Fr h₀ L h' m → News h₀ L h' ((D, W.listOf vs.toArray 0) :: news) → (∀ p ∈ news, p.1 < D) → Q (.ref D) { s with heap := h', toks := k }) :
    wpAny (model prog w) A (call (.builtin "str.split") [.str x t, .str y u]) Q E s := m_split (pre := []) (post := []) hF hN hx hy (by decide) (by decide) hne hf hz h
theorem m_tupleL {l : Addr} {zs : List Value} {n : Nat} (F : Fr h₀ L s.heap m) (N : News h₀ L s.heap news) (hl : (l, W.listOf zs.toArray n) ∈ news) (hz : zs.length ≤ 1000000)
    (h : ∀ D h', Fr h₀ L h' m → News h₀ L h' ((D, ({ cls := .type "tuple", data := .seq zs.toArray } : Obj)) :: news) → (∀ p ∈ news, p.1 < D) → Q (.ref D) { s with heap := h' }) : wpAny (model prog w) A (call (.type "tuple") [.ref l]) Q E s := by
  refine call_tuple_list (News.isList N hl) (fun h' hk => ?_) (by rw [sizeLine_eq, List.size_toArray]; omega)
  have F' : Fr h₀ L h' m := F.keeps hk
  have N' : News h₀ L h' news := fun p hp => ⟨hk _ _ (N p hp).1, (N p hp).2⟩
  exact h _ _ (F'.push _) (N'.push F' _) fun p hp => Heap.lt_size (N' p hp).1
end
/-- what row_of writes -/
def rowTx (ns : List Int) : List Nat := if ns = [] then [45] else joinL [32] (ns.map intTx)
theorem intTx_free (i : Int) : ∀ c ∈ intTx i, c = 45 ∨ (48 ≤ c ∧ c ≤ 57) := by
  intro c hc
  unfold intTx at hc
  split at hc
  · rcases List.mem_cons.mp hc with rfl | hc
    · exact .inl rfl
    · exact .inr (digs_all _ c hc)
  · exact .inr (digs_all _ c hc)
theorem intTx_ne (i : Int) : intTx i ≠ [45] := by
  unfold intTx
  split
  · intro e
    injection e with _ e
    exact digs_ne _ e
  · intro e
    have := digs_all i.toNat 45 (by rw [e]; exact .head _)
    omega
theorem intTx_len (i : Int) : 1 ≤ (intTx i).length := by
  unfold intTx
  split
  · simp
  · exact digs_pos _
theorem digs_inj {a b : Nat} (e : digs a = digs b) : a = b := by
  have := congrArg valL e
  rwa [valL_digs, valL_digs] at this
theorem intTx_inj {i j : Int} (e : intTx i = intTx j) : i = j := by
  unfold intTx at e
  split at e <;> split at e
  · injection e with _ e
    have := digs_inj e
    omega
  · exfalso
    have := digs_all j.toNat 45 (by rw [← e]; exact .head _)
    omega
  · exfalso
    have := digs_all i.toNat 45 (by rw [e]; exact .head _)
    omega
  · have := digs_inj e
    omega
theorem nums_all {news : List (Addr × Obj)} : ∀ {vs ys : List Value} {ns : List Int}, TxAll vs (ns.map intTx) → Paired (fun v y => ∃ i t t', v = Value.str (tx (intTx i)) t ∧ y = Value.int i t') vs ys → DatAll news ys (ns.map .int) := by
  intro vs ys ns h hp
  obtain ⟨l, rfl, e⟩ := h
  induction ns generalizing l ys with
  | nil =>
    cases l with
    | nil => cases hp; exact .nil
    | cons p l => simp at e
  | cons i ns ih =>
    cases l with
    | nil => simp at e
    | cons p l =>
      simp only [List.map_cons, List.cons.injEq] at e
      cases hp with
      | cons hF ht =>
        obtain ⟨j, t, t', hj, rfl⟩ := hF
        injection hj with hj _
        have e1 : tx (intTx j) = tx (intTx i) := by rw [← hj]; exact e.1
        rw [intTx_inj (tx_inj e1)]
        exact .cons (.int i t') (ih l e.2 ht)
theorem nums_mem {vs : List Value} {ns : List Int} {v : Value} (h : TxAll vs (ns.map intTx)) (hv : v ∈ vs) : ∃ i t, i ∈ ns ∧ v = .str (tx (intTx i)) t := by
  obtain ⟨l, rfl, e⟩ := h
  obtain ⟨p, hp, rfl⟩ := List.mem_map.mp hv
  have : p.1 ∈ (ns.map intTx).map tx := by rw [← e]; exact List.mem_map.mpr ⟨p, hp, rfl⟩
  obtain ⟨c, hc, hc2⟩ := List.mem_map.mp this
  obtain ⟨i, hi, rfl⟩ := List.mem_map.mp hc
  exact ⟨i, p.2, hi, by rw [hc2]⟩
theorem row_ne {ns : List Int} (h : ns ≠ []) : joinL [32] (ns.map intTx) ≠ [45] := by
  cases ns with
  | nil => exact absurd rfl h
  | cons a r =>
    cases r with
    | nil => exact intTx_ne a
    | cons b r =>
      intro e
      have e2 := congrArg List.length e
      have : joinL [32] ((a :: b :: r).map intTx) = intTx a ++ [32] ++ joinL [32] ((b :: r).map intTx) := rfl
      rw [this, List.length_append, List.length_append] at e2
      have := intTx_len a
      simp at e2
      omega
section
local macro_rules | `(tactic| walk_at "call type:tuple") => wl "call ( Value.type _ ) [ ( Value.ref _ ) ]" "m_tupleL" "k1 k2 k3 k4 _" "k1:a k2:a k3:m k4:c" "D' h' F' N' l1" 2
local macro_rules | `(tactic| kct_strs) => ws
local macro_rules | `(tactic| walk_at "compareOp Eq str str") => wl "" "m_eqF" "k1 k2 k3 _" "k1:R k2:R|lit_dash/ k3:s" "" 0
local macro_rules | `(tactic| walk_at "call builtin:str.split") => wl "call ( Value.builtin _ ) [ ( Value.str ( tx _ ) _ ) ( Value.str _ _ ) ]" "m_splitW" "k1 k2 k3 k4 k7 k8 k9 _" "k1:a k2:a k3:f k4:lit_sp/ k7:s k8:s k9:c" "D' vs' h' k' ht' F' N' l1" 0
set_option maxHeartbeats 8000000 in
theorem nums_spec {w : World} {mean : ExcName → Option Value} {mg mb : Str → Option Value}
    {dp un : Nat} {gd : Option (List Code)} {cn : Str} {cs : Scope} {a : Addr} {ccd : Value} {cl : List (Str × Addr)} {outer : List Env} {A₀ : Around} {base h₀ : Heap} {L : Addr} {m : Str → Option Value} {s : Shared}
    {Q E : Value → Shared → Prop} {news : List (Addr × Obj)} {tw : Tok} {ns : List Int} (hs : ∀ i ∈ ns, Small i) (hcount : ns.length ≤ 60) (hz : (rowTx ns).length ≤ 1000000)
    (B : Below A₀ base outer h₀) (F : Fr h₀ L s.heap m) (X : (Mine.hd.heap_39 w.params).In h₀) (N : News h₀ L s.heap news) (T : Top Mine.vw (looseW Mine.vw [Str.ofString "ROUND"]) mean mg mb h₀) (hk : cs.kind = .function)
    (hd : dp + 2 < 1000) (hu : un + 32 < 9900)
    (hret : ∀ v tl h' tk', DatIn (tl ++ news) v (.tuple (ns.map .int)) → Fr h₀ L h' m → News h₀ L h' (tl ++ news) → Q v { s with heap := h', toks := tk' }) :
    wpAny (model PySem.Challenge.rw_sj0098_01.row.prog w) (ktrTop dp un gd cn cs L a ccd cl outer) (call (.ref 300) [.str (tx (rowTx ns)) tw]) Q E s := by
  by_cases hne : ns = []
  · subst hne
    rw [show tx (rowTx []) = PySem.Str.ofString "-" by decide]
    refine wpAny_call ?_
    w_strict (
      k_dflt ktr_enter
      kbt_split
      exact hret _ [(_, _)] _ _ (.tuple (.head _) .nil) (by k_asm) (by k_asm))
  · have e : rowTx ns = joinL [32] (ns.map intTx) := by unfold rowTx; rw [if_neg hne]
    rw [e] at hz ⊢
    have f1 := row_ne hne
    have f2 : ns.map intTx ≠ [] := by intro e; exact hne (List.map_eq_nil_iff.mp e)
    have f3 : ∀ q ∈ ns.map intTx, 32 ∉ q := by
      intro q hq hm
      obtain ⟨i, _, rfl⟩ := List.mem_map.mp hq
      have := intTx_free i 32 hm
      omega
    have f3' : ∀ q ∈ ns.map intTx, 32 ∉ q := f3
    refine wpAny_call ?_
    w_strict (
      k_dflt ktr_enter
      kbt_split
      k_dflt (refine' m_compV (cl := []) (fun v y => ∃ i t t', v = Value.str (tx (intTx i)) t ∧ y = Value.int i t') rfl ?clos ?cell ?kind ?names ?x ?h ?s)
      (case clos => exact closureFor_none (by decide))
      (case cell => decide)
      (case kind => rfl)
      (case names => decide)
      (case x => rfl)
      (case s => intro _; rfl)
      kbt_split
      (rename TxAll _ _ => hT9)
      (rename Fr _ _ _ _ => F9)
      (rename News _ _ _ _ => N9)
      have hl9 := News.isList N9 (.head _)
      refine ⟨_, _, _, _, _, _, rfl, .inl hl9, ?_, F9, N9, ?_, ?_⟩
      · rw [sizeLine_eq, hT9.length, List.length_map]
        omega
      · intro C v s₃ m₃ E' hv hns hm3 hkeep
        have F3 := F9.keeps hkeep
        have N3 := N9.grown hkeep
        obtain ⟨i, t, hi, rfl⟩ := nums_mem hT9 hv
        clear F9 N9
        kbt_split
        k_dflt (refine' thing_spec (d := .int i) ?z (by k_asm) (by k_asm) (by k_asm) (by k_asm) (by k_asm) rfl ?d ?u ?r)
        (case z => exact .int 0 i (hs i hi))
        (case d => ktr_room)
        (case u => ktr_units)
        intro v h' tk' hv _ _ K
        cases hv
        exact ⟨⟨_, _, _, rfl, rfl⟩, _, _, rfl, K⟩
      · intro D n' ys h' tk' F1 N1 hp hkeep
        have hall := fun q => nums_all (news := q) hT9 hp
        have hlen := (hall []).length
        rw [List.length_map] at hlen
        clear F9 N9
        kbt_split
        exact hret _ [_, _, _] _ _ (.tuple (.head _) (hall _)) (by k_asm) (by k_asm))
end

end
local macro_rules | `(tactic| walk_at "call type:tuple") => wl "call ( Value.type _ ) [ ( Value.ref _ ) ]" "m_tupleL" "k1 k2 k3 k4 _" "k1:a k2:a k3:m k4:c" "D' h' F' N' l1" 2
local macro_rules | `(tactic| walk_at "call ref") => wl "call ( Value.ref 300 ) _" "nums_spec,ns=_" "kS kC kZ kB kF kX kN kT kK kd ku _" "kB:a kF:a kX:a kN:a kT:a kK:e kS:s kC:s kZ:s kd:r ku:n" "v' tl' h' tk' hv' F' N'" 1
theorem fresh_Stack : True := by first | row_walk | trivial
local macro_rules | `(tactic| walk_at "none Stack 0") => `(tactic| fail)
local macro_rules | `(tactic| walk_at "none Stack 1") => `(tactic| fail)
section
-- needs: Nums
/-- one list of the stack -/
structure Cell where
  a : Addr
  vs : List Value
  n : Nat
def Cell.led (c : Cell) : Addr × Obj := (c.a, W.listOf c.vs.toArray c.n)
/-- what the stack's own list holds -/
def srefs (t : Cell) (b : List Cell) : List Value := (b.map fun c => Value.ref c.a).reverse ++ [.ref t.a]
/-- the ledger of a stack -/
def stkL (S : Addr) (sn : Nat) (t : Cell) (b : List Cell) (R : List (Addr × Obj)) : List (Addr × Obj) := (S, W.listOf (srefs t b).toArray sn) :: t.led :: (b.map Cell.led ++ R)
/-- the stack's addresses differ -/
structure Ap (S : Addr) (t : Cell) (b : List Cell) (R : List (Addr × Obj)) : Prop where
  nodup : (S :: t.a :: b.map Cell.a).Nodup
  off : ∀ p ∈ R, p.1 ∉ S :: t.a :: b.map Cell.a
theorem srefs_len (t : Cell) (b : List Cell) : (srefs t b).length = b.length + 1 := by simp [srefs]
theorem srefs_push (D t : Cell) (b : List Cell) : srefs D (t :: b) = srefs t b ++ [.ref D.a] := by simp [srefs]
theorem srefs_pop (t c : Cell) (b : List Cell) : srefs t (c :: b) = srefs c b ++ [.ref t.a] := by simp [srefs]
theorem led_map (b : List Cell) (D : Addr) (R : List (Addr × Obj)) (S : Addr) (sn : Nat) (t : Cell) (h : ∀ p ∈ stkL S sn t b R, p.1 < D) : D ∉ S :: t.a :: b.map Cell.a ∧ ∀ p ∈ R, p.1 ≠ D := by
  constructor
  · intro hm
    rcases List.mem_cons.mp hm with rfl | hm
    · exact Nat.lt_irrefl _ (h _ (.head _))
    · rcases List.mem_cons.mp hm with rfl | hm
      · exact Nat.lt_irrefl _ (h t.led (.tail _ (.head _)))
      · obtain ⟨c, hc, rfl⟩ := List.mem_map.mp hm
        exact Nat.lt_irrefl _ (h c.led (.tail _ (.tail _ (List.mem_append_left _ (List.mem_map.mpr ⟨c, hc, rfl⟩)))))
  · intro p hp e
    exact Nat.ne_of_lt (h p (.tail _ (.tail _ (List.mem_append_right _ hp)))) e
theorem Ap.push {S : Addr} {sn : Nat} {t : Cell} {b : List Cell} {R : List (Addr × Obj)} (h : Ap S t b R) {D : Cell} (hD : ∀ p ∈ stkL S sn t b R, p.1 < D.a) : Ap S D (t :: b) R := by
  obtain ⟨h1, h2⟩ := led_map b D.a R S sn t hD
  refine ⟨?_, ?_⟩
  · have e : (S :: D.a :: (t :: b).map Cell.a).Perm (D.a :: S :: t.a :: b.map Cell.a) := List.Perm.swap _ _ _
    exact e.nodup_iff.mpr (List.nodup_cons.mpr ⟨h1, h.nodup⟩)
  · intro p hp hm
    have e : (S :: D.a :: (t :: b).map Cell.a).Perm (D.a :: S :: t.a :: b.map Cell.a) := List.Perm.swap _ _ _
    rcases List.mem_cons.mp (e.mem_iff.mp hm) with q | q
    · exact h2 p hp q
    · exact h.off p hp q
theorem Ap.pop {S : Addr} {t c : Cell} {b : List Cell} {R : List (Addr × Obj)} (h : Ap S t (c :: b) R) : Ap S c b (t.led :: R) := by
  have e : (S :: t.a :: (c :: b).map Cell.a).Perm (t.a :: S :: c.a :: b.map Cell.a) := List.Perm.swap _ _ _
  have hn := List.nodup_cons.mp (e.nodup_iff.mp h.nodup)
  refine ⟨hn.2, ?_⟩
  intro p hp hm
  rcases List.mem_cons.mp hp with rfl | hp
  · exact hn.1 hm
  · exact h.off p hp (e.mem_iff.mpr (.tail _ hm))
theorem Ap.grow {S : Addr} {sn : Nat} {t : Cell} {b : List Cell} {R : List (Addr × Obj)} (h : Ap S t b R) {D : Addr} {o : Obj} (hD : ∀ p ∈ stkL S sn t b R, p.1 < D) : Ap S t b ((D, o) :: R) := by
  obtain ⟨h1, h2⟩ := led_map b D R S sn t hD
  refine ⟨h.nodup, ?_⟩
  intro p hp hm
  rcases List.mem_cons.mp hp with rfl | hp
  · exact h1 hm
  · exact h.off p hp hm
theorem Ap.less {S : Addr} {t : Cell} {b : List Cell} {R R' : List (Addr × Obj)} (h : Ap S t b R) (hs : ∀ p ∈ R', ∃ q ∈ R, p.1 = q.1) : Ap S t b R' := ⟨h.nodup, fun p hp => by obtain ⟨q, hq, e⟩ := hs p hp; rw [e]; exact h.off q hq⟩
theorem Ap.same {S : Addr} {t t' : Cell} {b : List Cell} {R : List (Addr × Obj)} (h : Ap S t b R) (e : t'.a = t.a) : Ap S t' b R := by
  refine ⟨?_, ?_⟩
  · rw [e]; exact h.nodup
  · rw [e]; exact h.off
section
variable {prog : Program} {w : World} {A : Around} {E : Value → Shared → Prop} {s : Shared} {h₀ : Heap} {L S : Addr} {m : Str → Option Value} {R : List (Addr × Obj)} {sn : Nat} {t c : Cell} {b : List Cell} {Q : Value → Shared → Prop}
theorem mem_S : (S, W.listOf (srefs t b).toArray sn) ∈ stkL S sn t b R := .head _
theorem mem_T : (t.a, W.listOf t.vs.toArray t.n) ∈ stkL S sn t b R := .tail _ (.head _)
theorem st_mappend {D : Addr} {its : Array Value} {n : Nat} {pl : Sem Bool} {Q : Value × List Value → Shared → Prop} (N : News h₀ L s.heap (stkL S sn t b R)) (hm : (D, W.listOf its n) ∈ stkL S sn t b R) (h : Q (.builtin "list.append", [.ref D]) s) :
    wpAny (model prog w) A (getMethod (.ref D) (PySem.Str.ofString "append") pl) Q E s := listMethod_K N hm PySem.F.slot_list_append PySem.F.type_list_append h
theorem st_mpop {D : Addr} {its : Array Value} {n : Nat} {pl : Sem Bool} {Q : Value × List Value → Shared → Prop} (N : News h₀ L s.heap (stkL S sn t b R)) (hm : (D, W.listOf its n) ∈ stkL S sn t b R) (h : Q (.builtin "list.pop", [.ref D]) s) :
    wpAny (model prog w) A (getMethod (.ref D) (PySem.Str.ofString "pop") pl) Q E s := listMethod_K N hm PySem.F.slot_list_pop PySem.F.type_list_pop h
theorem mem_R {p : Addr × Obj} (h : p ∈ R) : p ∈ stkL S sn t b R := .tail _ (.tail _ (List.mem_append_right _ h))
theorem st_top {value slice : PySem.Expr} {u : Tok} {k : Int} (hk : k = -1) (N : News h₀ L s.heap (stkL S sn t b R)) (hz : b.length ≤ 1000000) (h : Q (.ref t.a) s)
    (hs : subscripted slice false (.ref S) (.int k u) = operate [.ref S, .int k u] (getItem (.ref S) (.int k u)) := by with_unfolding_all rfl) :
    wpAny (model prog w) A (subscriptTail value slice (.ref S) (.int k u)) Q E s := by
  subst hk
  refine kde_neg (j := b.length) (News.isList N mem_S) (by decide) (by decide) ?_ ?_ h hs
  · rw [srefs_len]
    unfold seqIndex?
    have e : (-1 : Int) + ((b.length + 1 : Nat) : Int) = b.length := by omega
    simp only [show (-1 : Int) < 0 by decide, if_true, e]
    rw [if_pos (by rw [Bool.and_eq_true, decide_eq_true_eq, decide_eq_true_eq]; omega)]
    rfl
  · unfold srefs
    rw [List.getElem?_append_right (by simp)]
    simp
theorem st_pop (F : Fr h₀ L s.heap m) (N : News h₀ L s.heap (stkL S sn t (c :: b) R)) (A' : Ap S t (c :: b) R) (hz : b.length ≤ 1000000)
    (h : ∀ h', Fr h₀ L h' m → News h₀ L h' (stkL S (sn + 1) c b (t.led :: R)) → Ap S c b (t.led :: R) → Q (.ref t.a) { s with heap := h' }) : wpAny (model prog w) A (call (.builtin "list.pop") [.ref S]) Q E s := by
  refine kl_pop (news' := (S, W.listOf (srefs c b).toArray (sn + 1)) :: t.led :: ((c :: b).map Cell.led ++ R)) F N (p := srefs c b) (y := .ref t.a) ?_ (Upd.head ?_) ?_ fun h' F' N' => h h' F' ?_ A'.pop
  · rw [srefs_pop]
    simpa using kpa_last (.ref t.a) (srefs c b)
  · intro p hp e
    rcases List.mem_cons.mp hp with rfl | hp
    · exact (List.nodup_cons.mp A'.nodup).1 (by rw [← e]; exact .head _)
    · rcases List.mem_append.mp hp with hp | hp
      · obtain ⟨d, hd, rfl⟩ := List.mem_map.mp hp
        exact (List.nodup_cons.mp A'.nodup).1 (by rw [← e]; exact .tail _ (List.mem_map.mpr ⟨d, hd, rfl⟩))
      · exact A'.off p hp (by rw [e]; exact .head _)
  · rw [srefs_pop, sizeLine_eq]
    simp [srefs_len]
    omega
  · intro p hp
    refine N' p ?_
    rcases List.mem_cons.mp hp with rfl | hp
    · exact .head _
    · rcases List.mem_cons.mp hp with rfl | hp
      · exact .tail _ (.tail _ (.head _))
      · rcases List.mem_append.mp hp with hp | hp
        · exact .tail _ (.tail _ (.tail _ (List.mem_append_left _ hp)))
        · rcases List.mem_cons.mp hp with rfl | hp
          · exact .tail _ (.head _)
          · exact .tail _ (.tail _ (.tail _ (List.mem_append_right _ hp)))
theorem st_push {D : Addr} (F : Fr h₀ L s.heap m) (N : News h₀ L s.heap ((D, W.listOf ([] : List Value).toArray 0) :: stkL S sn t b R)) (A' : Ap S t b R) (hD : ∀ p ∈ stkL S sn t b R, p.1 < D) (hz : b.length ≤ 1000000)
    (h : ∀ h', Fr h₀ L h' m → News h₀ L h' (stkL S (sn + 1) ⟨D, [], 0⟩ (t :: b) R) → Ap S ⟨D, [], 0⟩ (t :: b) R → Q .none { s with heap := h' }) : wpAny (model prog w) A (call (.builtin "list.append") [.ref S, .ref D]) Q E s := by
  have hp := Ap.push (D := ⟨D, [], 0⟩) A' hD
  refine append_K (D := S) (its := (srefs t b).toArray) (n := sn) (news' := (D, W.listOf ([] : List Value).toArray 0) :: (S, W.listOf ((srefs t b).toArray.push (.ref D)) (sn + 1)) :: t.led :: (b.map Cell.led ++ R)) F N (Upd.tail ?_ (Upd.head ?_)) (fun h' F' N' => h h' F' ?_ hp) ?_
  · intro e
    exact (List.nodup_cons.mp hp.nodup).1 (by rw [← e]; exact .head _)
  · intro p hp e
    rcases List.mem_cons.mp hp with rfl | hp
    · exact (List.nodup_cons.mp A'.nodup).1 (by rw [← e]; exact .head _)
    · rcases List.mem_append.mp hp with hp | hp
      · obtain ⟨d, hd, rfl⟩ := List.mem_map.mp hp
        exact (List.nodup_cons.mp A'.nodup).1 (by rw [← e]; exact .tail _ (List.mem_map.mpr ⟨d, hd, rfl⟩))
      · exact A'.off p hp (by rw [e]; exact .head _)
  · intro p hp
    refine N' p ?_
    rcases List.mem_cons.mp hp with rfl | hp
    · rw [srefs_push]
      refine .tail _ ?_
      simp only [List.push_toArray]
      exact .head _
    · rcases List.mem_cons.mp hp with rfl | hp
      · exact .head _
      · exact .tail _ (.tail _ hp)
  · rw [List.size_toArray, srefs_len, sizeLine_eq]
    omega
theorem st_add {x : Value} (F : Fr h₀ L s.heap m) (N : News h₀ L s.heap (stkL S sn t b R)) (A' : Ap S t b R) (hz : t.vs.length ≤ 1000000)
    (h : ∀ h', Fr h₀ L h' m → News h₀ L h' (stkL S sn ⟨t.a, t.vs ++ [x], t.n + 1⟩ b R) → Ap S ⟨t.a, t.vs ++ [x], t.n + 1⟩ b R → Q .none { s with heap := h' }) : wpAny (model prog w) A (call (.builtin "list.append") [.ref t.a, x]) Q E s := by
  have hn := List.nodup_cons.mp A'.nodup
  have hn2 := List.nodup_cons.mp hn.2
  refine append_K (D := t.a) (its := t.vs.toArray) (n := t.n) (news' := (S, W.listOf (srefs t b).toArray sn) :: (t.a, W.listOf (t.vs.toArray.push x) (t.n + 1)) :: (b.map Cell.led ++ R)) F N (Upd.tail ?_ (Upd.head ?_)) (fun h' F' N' => h h' F' ?_ (Ap.same A' rfl)) ?_
  · intro e
    exact hn.1 (by show S ∈ _; rw [show S = t.a from e]; exact .head _)
  · intro p hp e
    rcases List.mem_append.mp hp with hp | hp
    · obtain ⟨d, hd, rfl⟩ := List.mem_map.mp hp
      exact hn2.1 (by rw [← e]; exact List.mem_map.mpr ⟨d, hd, rfl⟩)
    · exact A'.off p hp (by rw [e]; exact .tail _ (.head _))
  · intro p hp
    refine N' p ?_
    rcases List.mem_cons.mp hp with rfl | hp
    · exact .head _
    · rcases List.mem_cons.mp hp with rfl | hp
      · refine .tail _ ?_
        simp only [List.push_toArray]
        exact .head _
      · exact .tail _ (.tail _ hp)
  · rw [List.size_toArray, sizeLine_eq]
    omega
theorem st_addT {x : Value} {y : Addr × Obj} (F : Fr h₀ L s.heap m) (N : News h₀ L s.heap (y :: stkL S sn t b R)) (A' : Ap S t b R) (hz : t.vs.length ≤ 1000000)
    (h : ∀ h', Fr h₀ L h' m → News h₀ L h' (stkL S sn ⟨t.a, t.vs ++ [x], t.n + 1⟩ b R) → Ap S ⟨t.a, t.vs ++ [x], t.n + 1⟩ b R → Q .none { s with heap := h' }) : wpAny (model prog w) A (call (.builtin "list.append") [.ref t.a, x]) Q E s :=
  st_add F (fun p hp => N p (.tail _ hp)) A' hz h
theorem st_len (N : News h₀ L s.heap (stkL S sn t b R)) (hz : b.length ≤ 1000000)
    (h : Q (.int (((b.length + 1 : Nat)) : Int) (s.toks + 1)) { s with toks := s.toks + 1 + 1 }) : wpAny (model prog w) A (call (.builtin "len") [.ref S]) Q E s := by
  refine m_len N mem_S (by rw [srefs_len]; omega) ?_
  rw [srefs_len]
  exact h
theorem st_tuple {l : Addr} {zs : List Value} {n : Nat} (F : Fr h₀ L s.heap m) (N : News h₀ L s.heap (stkL S sn t b ((l, W.listOf zs.toArray n) :: R))) (A' : Ap S t b ((l, W.listOf zs.toArray n) :: R)) (hz : zs.length ≤ 1000000)
    (h : ∀ D h', Fr h₀ L h' m → News h₀ L h' (stkL S sn t b ((D, ({ cls := .type "tuple", data := .seq zs.toArray } : Obj)) :: (l, W.listOf zs.toArray n) :: R)) → (∀ p ∈ stkL S sn t b ((l, W.listOf zs.toArray n) :: R), p.1 < D) →
      Ap S t b ((D, ({ cls := .type "tuple", data := .seq zs.toArray } : Obj)) :: (l, W.listOf zs.toArray n) :: R) → Q (.ref D) { s with heap := h' }) : wpAny (model prog w) A (call (.type "tuple") [.ref l]) Q E s := by
  refine m_tupleL F N (mem_R (.head _)) hz fun D h' F' N' l1 => h D h' F' ?_ l1 (A'.grow l1)
  intro p hp
  refine N' p ?_
  rcases List.mem_cons.mp hp with rfl | hp
  · exact .tail _ (.head _)
  · rcases List.mem_cons.mp hp with rfl | hp
    · exact .tail _ (.tail _ (.head _))
    · rcases List.mem_append.mp hp with hp | hp
      · exact .tail _ (.tail _ (.tail _ (List.mem_append_left _ hp)))
      · rcases List.mem_cons.mp hp with rfl | hp
        · exact .head _
        · exact .tail _ (.tail _ (.tail _ (List.mem_append_right _ hp)))
theorem st_own {own : List (Addr × Obj)} : stkL S sn t b R ++ own = stkL S sn t b (R ++ own) := by simp [stkL]
theorem st_first {D S : Addr} {R : List (Addr × Obj)} {h : Heap} (N : News h₀ L h ((S, W.listOf [Value.ref D].toArray 0) :: (D, W.listOf ([] : List Value).toArray 0) :: R)) (h1 : ∀ p ∈ (D, W.listOf ([] : List Value).toArray 0) :: R, p.1 < S) (h2 : ∀ p ∈ R, p.1 < D) :
    News h₀ L h (stkL S 0 ⟨D, [], 0⟩ [] R) ∧ Ap S ⟨D, [], 0⟩ [] R := by
  refine ⟨N, ?_, ?_⟩
  · have := Nat.ne_of_lt (h1 _ (.head _))
    simp
    exact fun e => this e.symm
  · intro p hp hm
    rcases List.mem_cons.mp hm with e | hm
    · exact Nat.ne_of_lt (h1 _ (.tail _ hp)) e
    · exact Nat.ne_of_lt (h2 _ hp) (List.mem_singleton.mp hm)
end
/-- what stands in the lists of the stack -/
inductive CellsOk (news : List (Addr × Obj)) : List Cell → List (List Dat) → Prop
  | nil : CellsOk news [] []
  | cons {c : Cell} {cs : List Cell} {ds : List Dat} {dss : List (List Dat)} : DatAll news c.vs ds → CellsOk news cs dss → CellsOk news (c :: cs) (ds :: dss)
theorem CellsOk.mono {news news' : List (Addr × Obj)} (hs : ∀ p ∈ news, p ∈ news') {cs : List Cell} {dss : List (List Dat)} (h : CellsOk news cs dss) : CellsOk news' cs dss := by
  induction h with
  | nil => exact .nil
  | cons a _ ih => exact .cons (a.mono hs) ih
theorem CellsOk.length {news : List (Addr × Obj)} {cs : List Cell} {dss : List (List Dat)} (h : CellsOk news cs dss) : cs.length = dss.length := by
  induction h with
  | nil => rfl
  | cons _ _ ih => rw [List.length_cons, List.length_cons, ih]
theorem DatAll.snoc' {news : List (Addr × Obj)} {vs : List Value} {ds : List Dat} {v : Value} {d : Dat} (h : DatAll news vs ds) (hv : DatIn news v d) : DatAll news (vs ++ [v]) (ds ++ [d]) := by
  induction vs generalizing ds with
  | nil => cases h; exact .cons hv .nil
  | cons x vs ih =>
    cases h with
    | cons a r => exact .cons a (ih r)

end
local macro_rules | `(tactic| walk_at "getMethod ref") => wl "getMethod ( Value.ref _ ) ( PySem.Str.ofString 'append ) _" "st_mappend" "N m _" "N:s m:mem_S/|mem_T/" "" 0
local macro_rules | `(tactic| walk_at "getMethod ref") => wl "getMethod ( Value.ref _ ) ( PySem.Str.ofString 'pop ) _" "st_mpop" "N m _" "N:s m:mem_S/|mem_T/" "" 0
local macro_rules | `(tactic| walk_at "subscriptTail") => wl "subscriptTail _ _ ( Value.ref _ ) ( Value.int -1 _ )" "st_top" "k1 k2 k3 _ k4" "k1:R k2:s k3:o k4:u" "" 0
local macro_rules | `(tactic| walk_at "call builtin:list.append") => wl "call ( Value.builtin _ ) [ ( Value.ref _ ) _ ]" "st_add" "k1 k2 k3 z _" "k1:a k2:s k3:s z:c" "h' F' N' A'" 0
local macro_rules | `(tactic| walk_at "call builtin:list.append") => wl "call ( Value.builtin _ ) [ ( Value.ref _ ) ( Value.ref _ ) ]" "st_push" "k1 k2 k3 k4 z _" "k1:a k2:s k3:s k4:s z:o" "h' F' N' A'" 0
local macro_rules | `(tactic| walk_at "call builtin:list.pop") => wl "call ( Value.builtin _ ) [ ( Value.ref _ ) ]" "st_pop" "k1 k2 k3 z _" "k1:a k2:s k3:s z:o" "h' F' N' A'" 0
local macro_rules | `(tactic| walk_at "call builtin:len") => wl "call ( Value.builtin 'len ) [ ( Value.ref _ ) ]" "st_len" "k1 z _" "k1:s z:o" "" 0
local macro_rules | `(tactic| walk_at "call type:tuple") => wl "call ( Value.type _ ) [ ( Value.ref _ ) ]" "st_tuple" "k1 k2 k3 k4 _" "k1:a k2:s k3:s k4:c" "D' h' F' N' l1 A'" 0
theorem fresh_Words : True := by first | row_walk | trivial
local macro_rules | `(tactic| walk_at "none Words 0") => `(tactic| fail)
section
-- needs: Stack
/-- a word of a note's text: how many brackets open, what stands there, how many close -/
structure Wd where
  o : Nat
  l : Option Dat
  c : Nat
def Wd.core (x : Wd) : List Nat := match x.l with
  | some d => noteTx d
  | none => []
def Wd.tx (x : Wd) : List Nat := List.replicate x.o 40 ++ (x.core ++ List.replicate x.c 41)
def bumpF : List Wd → List Wd
  | [] => []
  | x :: r => ⟨x.o + 1, x.l, x.c⟩ :: r
def bumpL : List Wd → List Wd
  | [] => []
  | [x] => [⟨x.o, x.l, x.c + 1⟩]
  | x :: y :: r => x :: bumpL (y :: r)
mutual
def wds : Dat → List Wd
  | .tuple [] => [⟨1, none, 1⟩]
  | .tuple (d :: ds) => bumpF (bumpL (wds d ++ wdss ds))
  | d => [⟨0, some d, 0⟩]
def wdss : List Dat → List Wd
  | [] => []
  | d :: ds => wds d ++ wdss ds
end
theorem bumpF_ne {l : List Wd} (h : l ≠ []) : bumpF l ≠ [] := by
  cases l with
  | nil => exact h
  | cons x r => exact List.cons_ne_nil _ _
theorem bumpL_ne {l : List Wd} (h : l ≠ []) : bumpL l ≠ [] := by
  cases l with
  | nil => exact h
  | cons x r =>
    cases r with
    | nil => exact List.cons_ne_nil _ _
    | cons y r => exact List.cons_ne_nil _ _
theorem wds_ne : ∀ d : Dat, wds d ≠ []
  | .tuple [] => by rw [wds]; exact List.cons_ne_nil _ _
  | .tuple (d :: ds) => by
    rw [wds]
    refine bumpF_ne (bumpL_ne ?_)
    intro e
    exact wds_ne d (List.append_eq_nil_iff.mp e).1
  | .none => by rw [wds] <;> simp
  | .bool _ => by rw [wds] <;> simp
  | .int _ => by rw [wds] <;> simp
  | .str _ => by rw [wds] <;> simp
  | .bytes _ => by rw [wds] <;> simp
  | .list _ => by rw [wds] <;> simp
/-- the reader's stack: the list on top first -/
abbrev Stk := List (List Dat)
def close1 : Stk → Option Stk
  | a :: b :: r => some ((b ++ [.tuple a]) :: r)
  | _ => none
def closeN : Nat → Stk → Option Stk
  | 0, st => some st
  | k + 1, st => (close1 st).bind (closeN k)
def openN : Nat → Stk → Stk
  | 0, st => st
  | k + 1, st => openN k ([] :: st)
def putL : Option Dat → Stk → Option Stk
  | none, st => some st
  | some d, a :: r => some ((a ++ [d]) :: r)
  | some _, [] => none
def stepW (x : Wd) (st : Stk) : Option Stk := (putL x.l (openN x.o st)).bind (closeN x.c)
def runW : List Wd → Stk → Option Stk
  | [], st => some st
  | x :: r, st => (stepW x st).bind (runW r)
theorem runW_append (a b : List Wd) (st : Stk) : runW (a ++ b) st = (runW a st).bind (runW b) := by
  induction a generalizing st with
  | nil => rfl
  | cons x r ih =>
    show (stepW x st).bind (runW (r ++ b)) = ((stepW x st).bind (runW r)).bind (runW b)
    cases stepW x st with
    | none => rfl
    | some q => exact ih q
theorem runF {l : List Wd} (h : l ≠ []) (st : Stk) : runW (bumpF l) st = runW l ([] :: st) := by
  cases l with
  | nil => exact absurd rfl h
  | cons x r => rfl
theorem closeN_succ (k : Nat) (st : Stk) : closeN (k + 1) st = (closeN k st).bind close1 := by
  induction k generalizing st with
  | zero =>
    show (close1 st).bind (closeN 0) = close1 st
    cases close1 st <;> rfl
  | succ k ih =>
    show (close1 st).bind (closeN (k + 1)) = ((close1 st).bind (closeN k)).bind close1
    cases close1 st with
    | none => rfl
    | some q => exact ih q
theorem runL {l : List Wd} (h : l ≠ []) (st : Stk) : runW (bumpL l) st = (runW l st).bind close1 := by
  induction l generalizing st with
  | nil => exact absurd rfl h
  | cons x r ih =>
    cases r with
    | nil =>
      show (stepW ⟨x.o, x.l, x.c + 1⟩ st).bind (runW []) = ((stepW x st).bind (runW [])).bind close1
      have e : stepW ⟨x.o, x.l, x.c + 1⟩ st = (stepW x st).bind close1 := by
        show (putL x.l (openN x.o st)).bind (closeN (x.c + 1)) = ((putL x.l (openN x.o st)).bind (closeN x.c)).bind close1
        cases putL x.l (openN x.o st) with
        | none => rfl
        | some q => exact closeN_succ x.c q
      rw [e]
      cases stepW x st with
      | none => rfl
      | some q =>
        show (close1 q).bind (fun z => some z) = close1 q
        cases close1 q <;> rfl
    | cons y r =>
      show (stepW x st).bind (runW (bumpL (y :: r))) = ((stepW x st).bind (runW (y :: r))).bind close1
      cases stepW x st with
      | none => rfl
      | some q => exact ih (List.cons_ne_nil _ _) q
mutual
theorem run_wds : ∀ (d : Dat) (a : List Dat) (st : Stk), runW (wds d) (a :: st) = some ((a ++ [d]) :: st)
  | .tuple [], a, st => by rw [wds]; rfl
  | .tuple (d :: ds), a, st => by
    have hne : wds d ++ wdss ds ≠ [] := fun e => wds_ne d (List.append_eq_nil_iff.mp e).1
    rw [wds, runF (bumpL_ne hne), runL hne, runW_append, run_wds d [] (a :: st), Option.bind_some, run_wdss ds _ (a :: st), Option.bind_some]
    rfl
  | .none, a, st => by rw [wds]; rfl; all_goals simp
  | .bool _, a, st => by rw [wds]; rfl; all_goals simp
  | .int _, a, st => by rw [wds]; rfl; all_goals simp
  | .str _, a, st => by rw [wds]; rfl; all_goals simp
  | .bytes _, a, st => by rw [wds]; rfl; all_goals simp
  | .list _, a, st => by rw [wds]; rfl; all_goals simp
theorem run_wdss : ∀ (ds : List Dat) (a : List Dat) (st : Stk), runW (wdss ds) (a :: st) = some ((a ++ ds) :: st)
  | [], a, st => by rw [wdss, List.append_nil]; rfl
  | d :: ds, a, st => by
    rw [wdss, runW_append, run_wds d a st, Option.bind_some, run_wdss ds _ st, List.append_assoc]
    rfl
end

theorem joinL_append {sep : List Nat} : ∀ {a b : List (List Nat)}, a ≠ [] → b ≠ [] → joinL sep (a ++ b) = joinL sep a ++ sep ++ joinL sep b := by
  intro a
  induction a with
  | nil => intro b h _; exact absurd rfl h
  | cons x r ih =>
    intro b _ hb
    cases r with
    | nil =>
      cases b with
      | nil => exact absurd rfl hb
      | cons y q => rfl
    | cons y r =>
      show x ++ sep ++ joinL sep ((y :: r) ++ b) = (x ++ sep ++ joinL sep (y :: r)) ++ sep ++ joinL sep b
      rw [ih (List.cons_ne_nil _ _) hb]
      simp only [List.append_assoc]
theorem joinL_headc {sep : List Nat} (c : Nat) (x : List Nat) (r : List (List Nat)) : joinL sep ((c :: x) :: r) = c :: joinL sep (x :: r) := by
  cases r with
  | nil => rfl
  | cons y r => rfl
theorem text_bumpF {l : List Wd} (h : l ≠ []) : joinL [32] ((bumpF l).map Wd.tx) = 40 :: joinL [32] (l.map Wd.tx) := by
  cases l with
  | nil => exact absurd rfl h
  | cons x r => exact joinL_headc 40 _ _
theorem text_bumpL {l : List Wd} (h : l ≠ []) : joinL [32] ((bumpL l).map Wd.tx) = joinL [32] (l.map Wd.tx) ++ [41] := by
  induction l with
  | nil => exact absurd rfl h
  | cons x r ih =>
    cases r with
    | nil =>
      show List.replicate x.o 40 ++ (x.core ++ List.replicate (x.c + 1) 41) = (List.replicate x.o 40 ++ (x.core ++ List.replicate x.c 41)) ++ [41]
      rw [List.replicate_succ']
      simp only [List.append_assoc]
    | cons y r =>
      have e : joinL [32] ((bumpL (x :: y :: r)).map Wd.tx) = x.tx ++ [32] ++ joinL [32] ((bumpL (y :: r)).map Wd.tx) := by
        have hne : bumpL (y :: r) ≠ [] := bumpL_ne (List.cons_ne_nil _ _)
        show joinL [32] (x.tx :: (bumpL (y :: r)).map Wd.tx) = _
        cases e2 : bumpL (y :: r) with
        | nil => exact absurd e2 hne
        | cons z q => rfl
      rw [e, ih (List.cons_ne_nil _ _)]
      show _ = (x.tx ++ [32] ++ joinL [32] ((y :: r).map Wd.tx)) ++ [41]
      simp only [List.append_assoc]
mutual
theorem text_wds : ∀ d : Dat, joinL [32] ((wds d).map Wd.tx) = noteTx d
  | .tuple [] => by rw [wds, note_tuple]; rfl
  | .tuple (d :: ds) => by
    have hne : wds d ++ wdss ds ≠ [] := fun e => wds_ne d (List.append_eq_nil_iff.mp e).1
    rw [wds, text_bumpF (bumpL_ne hne), text_bumpL hne, note_tuple]
    have e := text_wdss (d :: ds) (List.cons_ne_nil _ _)
    rw [wdss] at e
    rw [e]
  | .none => by rw [wds]; simp [joinL, Wd.tx, Wd.core]; all_goals simp
  | .bool _ => by rw [wds]; simp [joinL, Wd.tx, Wd.core]; all_goals simp
  | .int _ => by rw [wds]; simp [joinL, Wd.tx, Wd.core]; all_goals simp
  | .str _ => by rw [wds]; simp [joinL, Wd.tx, Wd.core]; all_goals simp
  | .bytes _ => by rw [wds]; simp [joinL, Wd.tx, Wd.core]; all_goals simp
  | .list _ => by rw [wds]; simp [joinL, Wd.tx, Wd.core]; all_goals simp
theorem text_wdss : ∀ ds : List Dat, ds ≠ [] → joinL [32] ((wdss ds).map Wd.tx) = joinL [32] (ds.map noteTx)
  | [], h => absurd rfl h
  | d :: [], _ => by
    rw [wdss, wdss, List.append_nil, text_wds d]
    rfl
  | d :: e :: ds, _ => by
    rw [wdss, List.map_append, joinL_append, text_wds d, text_wdss (e :: ds) (List.cons_ne_nil _ _)]
    · rfl
    · intro q; exact wds_ne d (List.map_eq_nil_iff.mp q)
    · intro q
      rw [wdss] at q
      exact wds_ne e (List.append_eq_nil_iff.mp (List.map_eq_nil_iff.mp q)).1
end
structure WdOk (x : Wd) : Prop where
  leaf : ∀ d, x.l = some d → NoteOk 0 d
  bare : x.l = none → 1 ≤ x.o ∧ 1 ≤ x.c
theorem ok_bumpF {l : List Wd} (h : ∀ x ∈ l, WdOk x) : ∀ x ∈ bumpF l, WdOk x := by
  cases l with
  | nil => exact h
  | cons y r =>
    intro x hx
    rcases List.mem_cons.mp hx with rfl | hx
    · have := h y (.head _)
      exact ⟨this.leaf, fun e => ⟨by show 1 ≤ y.o + 1; omega, (this.bare e).2⟩⟩
    · exact h x (.tail _ hx)
theorem ok_bumpL {l : List Wd} (h : ∀ x ∈ l, WdOk x) : ∀ x ∈ bumpL l, WdOk x := by
  induction l with
  | nil => exact h
  | cons y r ih =>
    cases r with
    | nil =>
      intro x hx
      have := h y (.head _)
      rw [List.mem_singleton.mp hx]
      exact ⟨this.leaf, fun e => ⟨(this.bare e).1, by show 1 ≤ y.c + 1; omega⟩⟩
    | cons z r =>
      intro x hx
      rcases List.mem_cons.mp hx with rfl | hx
      · exact h x (.head _)
      · exact ih (fun q hq => h q (.tail _ hq)) x hx
mutual
theorem ok_wds : ∀ (n : Nat) (d : Dat), NoteOk n d → ∀ x ∈ wds d, WdOk x
  | n, .tuple [], _ => by
    rw [wds]
    intro x hx
    rw [List.mem_singleton.mp hx]
    exact ⟨fun d e => (nomatch e), fun _ => ⟨Nat.le_refl _, Nat.le_refl _⟩⟩
  | n, .tuple (d :: ds), h => by
    rw [wds]
    cases h with
    | tuple k _ hd =>
      refine ok_bumpF (ok_bumpL fun x hx => ?_)
      rcases List.mem_append.mp hx with hx | hx
      · exact ok_wds k d (hd d (.head _)) x hx
      · exact ok_wdss k ds (fun e he => hd e (.tail _ he)) x hx
  | n, .none, h => by
    rw [wds]
    · intro x hx
      rw [List.mem_singleton.mp hx]
      exact ⟨fun d e => by cases e; exact .none 0, fun e => nomatch e⟩
    all_goals simp
  | n, .int i, h => by
    rw [wds]
    · intro x hx
      rw [List.mem_singleton.mp hx]
      cases h with
      | int _ _ hi => exact ⟨fun d e => by cases e; exact .int 0 i hi, fun e => nomatch e⟩
    all_goals simp
  | n, .str i, h => by
    rw [wds]
    · intro x hx
      rw [List.mem_singleton.mp hx]
      cases h with
      | str _ c hc => exact ⟨fun d e => by cases e; exact .str 0 c hc, fun e => nomatch e⟩
    all_goals simp
theorem ok_wdss : ∀ (n : Nat) (ds : List Dat), (∀ d ∈ ds, NoteOk n d) → ∀ x ∈ wdss ds, WdOk x
  | n, [], _ => by rw [wdss]; intro x hx; cases hx
  | n, d :: ds, h => by
    rw [wdss]
    intro x hx
    rcases List.mem_append.mp hx with hx | hx
    · exact ok_wds n d (h d (.head _)) x hx
    · exact ok_wdss n ds (fun e he => h e (.tail _ he)) x hx
end
theorem leaf_free {d : Dat} (h : NoteOk 0 d) : noteTx d ≠ [] ∧ ∀ c ∈ noteTx d, c ≠ 32 ∧ c ≠ 40 ∧ c ≠ 41 := by
  cases h with
  | none => exact ⟨by rw [noteTx]; simp, by rw [noteTx]; decide⟩
  | int _ i _ =>
    rw [noteTx]
    constructor
    · intro e
      have := intTx_len i
      rw [e] at this
      exact absurd this (by decide)
    · intro c hc
      have := intTx_free i c hc
      omega
  | str _ c hc =>
    rw [noteTx, tx_toList]
    have : ∀ w ∈ WL, w ≠ [] ∧ ∀ c ∈ w, c ≠ 32 ∧ c ≠ 40 ∧ c ≠ 41 := by decide
    exact this c hc
theorem core_free {x : Wd} (h : WdOk x) : ∀ c ∈ x.core, c ≠ 32 ∧ c ≠ 40 ∧ c ≠ 41 := by
  intro c hc
  unfold Wd.core at hc
  split at hc
  · next d e => exact (leaf_free (h.leaf d e)).2 c hc
  · cases hc
theorem core_nil {x : Wd} (h : WdOk x) : x.core = [] ↔ x.l = none := by
  unfold Wd.core
  split
  · next d e => simp [(leaf_free (h.leaf d e)).1, e]
  · next e => simp [e]
theorem word_free {x : Wd} (h : WdOk x) : 32 ∉ x.tx := by
  intro hm
  rcases List.mem_append.mp hm with hm | hm
  · exact absurd (List.eq_of_mem_replicate hm) (by decide)
  · rcases List.mem_append.mp hm with hm | hm
    · exact (core_free h _ hm).1 rfl
    · exact absurd (List.eq_of_mem_replicate hm) (by decide)
theorem drop_rep (k a : Nat) (r : List Nat) : (List.replicate k a ++ r).dropWhile (· == a) = r.dropWhile (· == a) := by
  induction k with
  | zero => rfl
  | succ k ih =>
    rw [List.replicate_succ, List.cons_append, List.dropWhile_cons_of_pos (by simp)]
    exact ih
theorem drop_none {a : Nat} {r : List Nat} (h : ∀ c, r.head? = some c → c ≠ a) : r.dropWhile (· == a) = r := by
  cases r with
  | nil => rfl
  | cons b r => rw [List.dropWhile_cons_of_neg]; simpa using h b rfl
theorem word_rest {x : Wd} (h : WdOk x) : x.tx.dropWhile (· == 40) = x.core ++ List.replicate x.c 41 := by
  unfold Wd.tx
  rw [drop_rep, drop_none]
  intro c hc
  cases e : x.core with
  | nil =>
    rw [e, List.nil_append] at hc
    have := List.mem_of_mem_head? hc
    rw [List.eq_of_mem_replicate this]
    decide
  | cons a r =>
    rw [e] at hc
    cases hc
    exact (core_free h c (by rw [e]; exact .head _)).2.1
theorem word_core {x : Wd} (h : WdOk x) : ((x.core ++ List.replicate x.c 41).reverse.dropWhile (· == 41)).reverse = x.core := by
  rw [List.reverse_append, List.reverse_replicate, drop_rep, drop_none, List.reverse_reverse]
  intro c hc
  have := List.mem_reverse.mp (List.mem_of_mem_head? hc)
  exact (core_free h c this).2.2
theorem word_len (x : Wd) : x.tx.length = x.o + x.core.length + x.c ∧ (x.core ++ List.replicate x.c 41).length = x.core.length + x.c := by
  constructor
  · unfold Wd.tx
    simp only [List.length_append, List.length_replicate]
    omega
  · simp only [List.length_append, List.length_replicate]
theorem word_pos {x : Wd} (h : WdOk x) : 1 ≤ x.tx.length := by
  rw [(word_len x).1]
  by_cases e : x.l = none
  · have := (h.bare e).1
    omega
  · have : x.core ≠ [] := fun q => e ((core_nil h).mp q)
    have := List.length_pos_iff.mpr this
    omega
/-- how much room the stack takes -/
def wgt (st : Stk) : Nat := (st.map fun a => a.length + 1).sum
def wsum (ws : List Wd) : Nat := (ws.map fun x => x.tx.length + 1).sum
theorem wsum_text (ws : List Wd) : wsum ws ≤ (joinL [32] (ws.map Wd.tx)).length + 1 := by
  have := joinL_sum (ws.map Wd.tx)
  unfold wsum
  rw [List.map_map, List.length_map] at this
  have e : ∀ l : List Wd, (l.map fun x => x.tx.length + 1).sum = (l.map (List.length ∘ Wd.tx)).sum + l.length := by
    intro l
    induction l with
    | nil => rfl
    | cons x r ih => simp only [List.map_cons, List.sum_cons, List.length_cons, ih, Function.comp]; omega
  rw [e]
  exact this
theorem wgt_len (st : Stk) : st.length ≤ wgt st := by
  induction st with
  | nil => exact Nat.le_refl _
  | cons a r ih => simp only [wgt, List.map_cons, List.sum_cons, List.length_cons] at ih ⊢; omega
theorem wgt_cons (a : List Dat) (r : Stk) : wgt (a :: r) = a.length + 1 + wgt r := by simp [wgt]
/-- what is still to be read -/
def KW (f : Stk) (M : Nat) (ws : List Wd) (st : Stk) : Prop := runW ws st = some f ∧ wgt st + wsum ws ≤ M
/-- at the brackets that open -/
def KO (f : Stk) (M : Nat) (x : Wd) (r : List Wd) (k : Nat) (st : Stk) : Prop := ((putL x.l (openN (x.o - k) st)).bind (closeN x.c)).bind (runW r) = some f ∧ wgt st + (x.o - k) + 1 + wsum r ≤ M
/-- at the brackets that close: so many to go -/
def KC (f : Stk) (M : Nat) (r : List Wd) (k : Nat) (st : Stk) : Prop := ((closeN k st).bind (runW r) = some f) ∧ wgt st + wsum r ≤ M
theorem KW.open {f : Stk} {M : Nat} {x : Wd} {r : List Wd} {st : Stk} (h : KW f M (x :: r) st) : KO f M x r 0 st := by
  refine ⟨h.1, ?_⟩
  have h2 := h.2
  have e : wsum (x :: r) = x.tx.length + 1 + wsum r := by simp [wsum]
  rw [e] at h2
  have := (word_len x).1
  omega
theorem KO.step {f : Stk} {M : Nat} {x : Wd} {r : List Wd} {k : Nat} {st : Stk} (h : KO f M x r k st) (hk : k < x.o) : KO f M x r (k + 1) ([] :: st) := by
  obtain ⟨h1, h2⟩ := h
  have e : x.o - k = (x.o - (k + 1)) + 1 := by omega
  refine ⟨?_, ?_⟩
  · rw [e] at h1
    exact h1
  · rw [wgt_cons]
    simp only [List.length_nil]
    omega
theorem KO.put {f : Stk} {M : Nat} {x : Wd} {r : List Wd} {a : List Dat} {q : Stk} {d : Dat} (h : KO f M x r x.o (a :: q)) (hd : x.l = some d) : KC f M r x.c ((a ++ [d]) :: q) := by
  obtain ⟨h1, h2⟩ := h
  rw [Nat.sub_self, hd] at h1
  refine ⟨h1, ?_⟩
  rw [wgt_cons] at h2 ⊢
  simp only [List.length_append, List.length_cons, List.length_nil]
  omega
theorem KO.pass {f : Stk} {M : Nat} {x : Wd} {r : List Wd} {st : Stk} (h : KO f M x r x.o st) (hd : x.l = none) : KC f M r x.c st := by
  obtain ⟨h1, h2⟩ := h
  rw [Nat.sub_self, hd] at h1
  exact ⟨h1, by omega⟩
theorem KC.step {f : Stk} {M : Nat} {r : List Wd} {k : Nat} {a : List Dat} {q : Stk} (h : KC f M r (k + 1) (a :: q)) : ∃ b q', q = b :: q' ∧ KC f M r k ((b ++ [.tuple a]) :: q') := by
  obtain ⟨h1, h2⟩ := h
  cases q with
  | nil => exact absurd h1 (by intro e; cases e)
  | cons b q' =>
    refine ⟨b, q', rfl, h1, ?_⟩
    simp only [wgt_cons] at h2 ⊢
    simp only [List.length_append, List.length_cons, List.length_nil]
    omega
theorem KC.done {f : Stk} {M : Nat} {r : List Wd} {st : Stk} (h : KC f M r 0 st) : KW f M r st := h

end
theorem fresh_Things : True := by first | row_walk | trivial
local macro_rules | `(tactic| walk_at "none Things 0") => `(tactic| fail)
section
-- needs: Words
/-- a stack between two steps -/
structure TS where
  sn : Nat
  t : Cell
  b : List Cell
  rest : List (Addr × Obj)
  dt : List Dat
  db : List (List Dat)
def TS.led (S : Addr) (base : List (Addr × Obj)) (c : TS) : List (Addr × Obj) := stkL S c.sn c.t c.b (c.rest ++ base)
structure TSOk (S : Addr) (base : List (Addr × Obj)) (K : Stk → Prop) (c : TS) : Prop where
  ap : Ap S c.t c.b (c.rest ++ base)
  cells : CellsOk c.rest (c.t :: c.b) (c.dt :: c.db)
  at' : K (c.dt :: c.db)
  sep : ∀ p ∈ base, ∀ q ∈ c.rest, p.1 ≠ q.1
theorem allLt_mem {d : Addr} {l : List (Addr × Obj)} (h : AllLt d l) : ∀ p ∈ l, p.1 < d := by
  induction l with
  | nil => intro p hp; cases hp
  | cons q r ih =>
    obtain ⟨h1, h2⟩ := h
    intro p hp
    cases hp with
    | head => exact h1
    | tail _ hp => exact ih h2 p hp
theorem st_enter {h₀ h : Heap} {L D S T : Addr} {ol : Obj} {news : List (Addr × Obj)} (N : News h₀ L h ((D, ol) :: (S, W.listOf #[Value.ref T] 0) :: (T, W.listOf #[] 0) :: news))
    (l1 : ∀ p ∈ (S, W.listOf #[Value.ref T] 0) :: (T, W.listOf #[] 0) :: news, p.1 < D) (l2 : T < S ∧ AllLt S news) (l3 : ∀ p ∈ news, p.1 < T) :
    News h₀ L h (stkL S 0 ⟨T, [], 0⟩ [] ((D, ol) :: news)) ∧ Ap S ⟨T, [], 0⟩ [] ((D, ol) :: news) := by
  have a := (st_first (D := T) (S := S) (R := news) (fun p hp => N p (.tail _ hp)) (by
    intro p hp
    cases hp with
    | head => exact l2.1
    | tail _ hp => exact allLt_mem l2.2 p hp) l3).2
  refine ⟨?_, Ap.grow (sn := 0) (o := ol) a l1⟩
  intro p hp
  refine N p ?_
  rcases List.mem_cons.mp hp with rfl | hp
  · exact .tail _ (.head _)
  · rcases List.mem_cons.mp hp with rfl | hp
    · exact .tail _ (.tail _ (.head _))
    · rcases List.mem_cons.mp hp with rfl | hp
      · exact .head _
      · exact .tail _ (.tail _ (.tail _ hp))
theorem Ap.own {S : Addr} {sn : Nat} {t : Cell} {b : List Cell} {R own : List (Addr × Obj)} (h : Ap S t b R) (ho : OwnOff own ((stkL S sn t b R).map (·.1))) : Ap S t b (R ++ own) := by
  refine ⟨h.nodup, ?_⟩
  intro p hp hm
  rcases List.mem_append.mp hp with hp | hp
  · exact h.off p hp hm
  · refine ho p hp p.1 ?_ rfl
    rcases List.mem_cons.mp hm with e | hm
    · rw [e]; exact .head _
    · rcases List.mem_cons.mp hm with e | hm
      · rw [e]; exact .tail _ (.head _)
      · obtain ⟨c, hc, e⟩ := List.mem_map.mp hm
        rw [← e]
        exact .tail _ (.tail _ (by
          rw [List.map_append]
          exact List.mem_append_left _ (List.mem_map.mpr ⟨c.led, List.mem_map.mpr ⟨c, hc, rfl⟩, rfl⟩)))
theorem Ap.cut {S : Addr} {t : Cell} {b : List Cell} {R own : List (Addr × Obj)} (h : Ap S t b (R ++ own)) : Ap S t b R := ⟨h.nodup, fun p hp => h.off p (List.mem_append_left _ hp)⟩
theorem own_R {S : Addr} {sn : Nat} {t : Cell} {b : List Cell} {R own : List (Addr × Obj)} (ho : OwnOff own ((stkL S sn t b R).map (·.1))) : ∀ p ∈ own, ∀ q ∈ R, p.1 ≠ q.1 := by
  intro p hp q hq
  exact ho p hp q.1 (List.mem_map.mpr ⟨q, mem_R hq, rfl⟩)
theorem own_stk {S : Addr} {sn : Nat} {t : Cell} {b : List Cell} {R own : List (Addr × Obj)} (hA : Ap S t b (R ++ own)) (hR : ∀ p ∈ own, ∀ q ∈ R, p.1 ≠ q.1) : OwnOff own ((stkL S sn t b R).map (·.1)) := by
  intro p hp k hk e
  obtain ⟨q, hq, rfl⟩ := List.mem_map.mp hk
  have hno := hA.off p (List.mem_append_right _ hp)
  rcases List.mem_cons.mp hq with rfl | hq
  · exact hno (by rw [e]; exact .head _)
  · rcases List.mem_cons.mp hq with rfl | hq
    · exact hno (by rw [e]; exact .tail _ (.head _))
    · rcases List.mem_append.mp hq with hq | hq
      · obtain ⟨c, hc, rfl⟩ := List.mem_map.mp hq
        exact hno (by rw [e]; exact .tail _ (.tail _ (List.mem_map.mpr ⟨c, hc, rfl⟩)))
      · exact hR p hp q hq e
theorem stk_mono {S : Addr} {sn : Nat} {t : Cell} {b : List Cell} {R R' : List (Addr × Obj)} (h : ∀ p ∈ R, p ∈ R') : ∀ p ∈ stkL S sn t b R, p ∈ stkL S sn t b R' := by
  intro p hp
  rcases List.mem_cons.mp hp with rfl | hp
  · exact .head _
  · rcases List.mem_cons.mp hp with rfl | hp
    · exact .tail _ (.head _)
    · rcases List.mem_append.mp hp with hp | hp
      · exact .tail _ (.tail _ (List.mem_append_left _ hp))
      · exact .tail _ (.tail _ (List.mem_append_right _ (h p hp)))
theorem sep_own {base rest own : List (Addr × Obj)} (h : ∀ p ∈ base, ∀ q ∈ rest, p.1 ≠ q.1) (ho : ∀ p ∈ own, ∀ q ∈ rest ++ base, p.1 ≠ q.1) : ∀ p ∈ base ++ own, ∀ q ∈ rest, p.1 ≠ q.1 := by
  intro p hp q hq
  rcases List.mem_append.mp hp with hp | hp
  · exact h p hp q hq
  · exact ho p hp q (List.mem_append_left _ hq)
theorem sep_grow {S D : Addr} {o : Obj} {sn : Nat} {t c : Cell} {b : List Cell} {base rest X : List (Addr × Obj)} (h : ∀ p ∈ base, ∀ q ∈ rest, p.1 ≠ q.1) (hA : Ap S t (c :: b) ((rest ++ base) ++ X)) (l1 : ∀ p ∈ stkL S sn c b (t.led :: ((rest ++ base) ++ X)), p.1 < D) :
    ∀ p ∈ base, ∀ q ∈ (D, o) :: t.led :: rest, p.1 ≠ q.1 := by
  intro p hp q hq
  have hm : p ∈ (rest ++ base) ++ X := List.mem_append_left _ (List.mem_append_right _ hp)
  rcases List.mem_cons.mp hq with rfl | hq
  · exact Nat.ne_of_lt (l1 p (mem_R (.tail _ hm)))
  · rcases List.mem_cons.mp hq with rfl | hq
    · intro e
      exact hA.off p hm (by rw [e]; exact .tail _ (.head _))
    · exact h p hp q hq
theorem own_grow {S D : Addr} {o : Obj} {sn : Nat} {t c : Cell} {b : List Cell} {R own : List (Addr × Obj)} (h : ∀ p ∈ own, ∀ q ∈ R, p.1 ≠ q.1) (hA : Ap S t (c :: b) (R ++ own)) (l1 : ∀ p ∈ stkL S sn c b (t.led :: (R ++ own)), p.1 < D) :
    ∀ p ∈ own, ∀ q ∈ (D, o) :: t.led :: R, p.1 ≠ q.1 := by
  intro p hp q hq
  have hm : p ∈ R ++ own := List.mem_append_right _ hp
  rcases List.mem_cons.mp hq with rfl | hq
  · exact Nat.ne_of_lt (l1 p (mem_R (.tail _ hm)))
  · rcases List.mem_cons.mp hq with rfl | hq
    · intro e
      exact hA.off p hm (by rw [e]; exact .tail _ (.head _))
    · exact h p hp q hq
theorem CellsOk.put {news : List (Addr × Obj)} {t : Cell} {b : List Cell} {dt : List Dat} {db : List (List Dat)} {v : Value} {d : Dat} {n : Nat} (h : CellsOk news (t :: b) (dt :: db)) (hv : DatIn [] v d) : CellsOk news (⟨t.a, t.vs ++ [v], n⟩ :: b) ((dt ++ [d]) :: db) := by
  cases h with
  | cons a r => exact .cons (DatAll.snoc' a (hv.mono (fun p hp => absurd hp List.not_mem_nil))) r
theorem stk_cut {S : Addr} {sn : Nat} {t : Cell} {b : List Cell} {R own : List (Addr × Obj)} : ∀ p ∈ stkL S sn t b R, p ∈ stkL S sn t b (R ++ own) := stk_mono fun _ hp => List.mem_append_left _ hp
theorem news_shape {h₀ h : Heap} {L : Addr} {a b x : Addr × Obj} {r news : List (Addr × Obj)} (N : News h₀ L h (a :: b :: (r ++ x :: news))) : News h₀ L h ((a :: b :: (r ++ [x])) ++ news) := by
  intro p hp
  refine N p ?_
  simpa [List.append_assoc] using hp
theorem CellsOk.room {news : List (Addr × Obj)} {t : Cell} {b : List Cell} {dt : List Dat} {db : List (List Dat)} (h : CellsOk news (t :: b) (dt :: db)) : b.length ≤ wgt (dt :: db) ∧ t.vs.length ≤ wgt (dt :: db) := by
  have h1 := h.length
  have h2 := wgt_len (dt :: db)
  rw [List.length_cons] at h1
  cases h with
  | cons a _ =>
    have := a.length
    have := wgt_cons dt db
    simp only [List.length_cons] at h1 h2
    omega
section
variable {prog : Program} {w : World} {A : Around} {E : Value → Shared → Prop} {s : Shared} {x : Wd} {t : Tok} {y : PySem.Str} {u : Tok} {Q : Value → Shared → Prop}
theorem m_lstripW (ok : WdOk x) (hz : x.tx.length ≤ 100000) (hy : y = PySem.Str.ofString "(") (h : ∀ t' k, Q (.str (tx (x.core ++ List.replicate x.c 41)) t') { s with toks := k }) :
    wpAny (model prog w) A (call (.builtin "str.lstrip") [.str (tx x.tx) t, .str y u]) Q E s := by
  subst hy
  refine m_lstripP (by omega) fun t' k => ?_
  rw [word_rest ok]
  exact h t' k
theorem m_rstripW (ok : WdOk x) (hz : x.tx.length ≤ 100000) (hy : y = PySem.Str.ofString ")") (h : ∀ t' k, Q (.str (tx x.core) t') { s with toks := k }) :
    wpAny (model prog w) A (call (.builtin "str.rstrip") [.str (tx (x.core ++ List.replicate x.c 41)) t, .str y u]) Q E s := by
  subst hy
  refine m_rstripP (by have := word_len x; omega) fun t' k => ?_
  rw [word_core ok]
  exact h t' k
end
theorem word_at {vs : List Value} {ws : List Wd} (h : TxAll vs (ws.map Wd.tx)) {i : Nat} {v : Value} (hv : vs[i]? = some v) : ∃ x t, v = .str ((tx x.tx)) t ∧ x ∈ ws ∧ ws.drop i = x :: ws.drop (i + 1) := by
  obtain ⟨l, rfl, e⟩ := h
  unfold strValues at hv
  rw [List.getElem?_map] at hv
  cases hp : l[i]? with
  | none => rw [hp] at hv; cases hv
  | some p =>
    rw [hp] at hv
    cases hv
    have e1 : (l.map (·.1))[i]? = some p.1 := by rw [List.getElem?_map, hp]; rfl
    rw [e, List.getElem?_map, List.getElem?_map] at e1
    cases hx : ws[i]? with
    | none => rw [hx] at e1; cases e1
    | some x =>
      rw [hx] at e1
      have e2 : tx x.tx = p.1 := by simpa using e1
      have hi : i < ws.length := (List.getElem?_eq_some_iff.mp hx).1
      refine ⟨x, p.2, by rw [e2], List.mem_of_getElem? hx, ?_⟩
      rw [List.drop_eq_getElem_cons hi]
      congr 1
      exact (List.getElem?_eq_some_iff.mp hx).2
section
local macro_rules | `(tactic| kct_strs) => ws
local macro_rules | `(tactic| walk_at "call builtin:str.split") => wl "call ( Value.builtin _ ) [ ( Value.str ( tx _ ) _ ) ( Value.str _ _ ) ]" "m_splitW" "k1 k2 k3 k4 k7 k8 k9 _" "k1:a k2:a k3:f k4:lit_sp/ k7:s k8:s k9:c" "D' vs' h' k' ht' F' N' l1" 0
local macro_rules | `(tactic| walk_at "compareOp Eq str str") => wl "" "m_eqF" "k1 k2 k3 _" "k1:R k2:R|lit_nil/ k3:s" "" 0
local macro_rules | `(tactic| walk_at "compareOp Eq str str") => wl "" "m_eqT" "k1 k2 k3 _" "k1:R k2:R|lit_nil/ k3:s" "" 0
local macro_rules | `(tactic| walk_at "call builtin:str.lstrip") => wl "call ( Value.builtin _ ) [ ( Value.str ( tx ( Wd.tx _ ) ) _ ) ( Value.str _ _ ) ]" "m_lstripW" "k1 k2 k3 _" "k1:s k2:s k3:f" "t' k'" 0
local macro_rules | `(tactic| walk_at "call builtin:str.rstrip") => wl "call ( Value.builtin _ ) [ ( Value.str ( tx _ ) _ ) ( Value.str _ _ ) ]" "m_rstripW" "k1 k2 k3 _" "k1:s k2:s k3:f" "t' k'" 0
local macro_rules | `(tactic| walk_at "compareOp NotEq str str") => wl "" "m_neT" "k1 k2 k3 _" "k1:R k2:R|lit_nil/ k3:s" "" 0
local macro_rules | `(tactic| walk_at "compareOp NotEq str str") => wl "" "m_neF" "k1 k2 k3 _" "k1:R k2:R|lit_nil/ k3:s" "" 0
theorem thing_at {w : World} {mean : ExcName → Option Value} {mg mb : Str → Option Value}
    {dp un : Nat} {gd : Option (List Code)} {cn : Str} {cs : Scope} {a : Addr} {ccd : Value} {cl : List (Str × Addr)} {outer : List Env} {A₀ : Around} {base h₀ : Heap} {L : Addr} {m : Str → Option Value} {s : Shared}
    {Q E : Value → Shared → Prop} {news : List (Addr × Obj)} {tw : Tok} {d : Dat} {c : List Nat} (hok : NoteOk 0 d) (hc : c = noteTx d)
    (B : Below A₀ base outer h₀) (F : Fr h₀ L s.heap m) (X : (Mine.hd.heap_39 w.params).In h₀) (N : News h₀ L s.heap news) (T : Top Mine.vw (looseW Mine.vw [Str.ofString "ROUND"]) mean mg mb h₀) (hk : cs.kind = .function)
    (hd : dp + 1 < 1000) (hu : un + 16 < 9900)
    (hret : ∀ v h' tk', DatIn [] v d → Fr h₀ L h' m → News h₀ L h' news → KeepH s.heap h' → Q v { s with heap := h', toks := tk' }) :
    wpAny (model PySem.Challenge.rw_sj0098_01.row.prog w) (ktrTop dp un gd cn cs L a ccd cl outer) (call (.ref 288) [.str (tx c) tw]) Q E s := by
  subst hc
  exact thing_spec hok B F X N T hk hd hu hret
local macro_rules | `(tactic| walk_at "call ref") => wl "call ( Value.ref 288 ) _" "thing_at" "kO kD kB kF kX kN kT kK kd ku _" "kO:s kD:s kB:a kF:a kX:a kN:a kT:a kK:e kd:r ku:n" "v' h' tk' hv' F' N' K'" 1
/-- a test that leaves all as it was -/
theorem if_same {M : Model} {A : Around} {t : Sem Flow} {P : Flow → Shared → Prop} {E : Value → Shared → Prop} {s : Shared}
    (h : wpAny M A t (fun f s' => f = Flow.next ∧ ∃ tk, s' = { s with toks := tk }) E s) (k : ∀ tk, P Flow.next { s with toks := tk }) : wpAny M A t P E s :=
  wpAny_mono h (fun f s' q => by obtain ⟨rfl, tk, rfl⟩ := q; exact k tk) fun _ _ e => e
/-- two ways that meet again in the same ledger -/
def TsMid (h₀ : Heap) (L : Addr) (m : Str → Option Value) (S : Addr) (R : List (Addr × Obj)) (K : Stk → Prop) (s : Shared) (f : Flow) (s' : Shared) : Prop :=
  f = Flow.next ∧ ∃ h' tk c', Fr h₀ L h' m ∧ News h₀ L h' (TS.led S R c') ∧ TSOk S R K c' ∧ s' = { s with heap := h', toks := tk }
theorem ts_mid {h₀ : Heap} {L : Addr} {m : Str → Option Value} {S : Addr} {R : List (Addr × Obj)} {K : Stk → Prop} {s : Shared} {h' : Heap} {tk : Nat} (c : TS)
    (F : Fr h₀ L h' m) (N : News h₀ L h' (TS.led S R c)) (ok : TSOk S R K c) : TsMid h₀ L m S R K s Flow.next { s with heap := h', toks := tk } := ⟨rfl, h', tk, c, F, N, ok, rfl⟩
theorem ts_join {M : Model} {A : Around} {t : Sem Flow} {P : Flow → Shared → Prop} {E : Value → Shared → Prop} {s : Shared} {h₀ : Heap} {L : Addr} {m : Str → Option Value} {S : Addr} {R : List (Addr × Obj)} {c : TS} {K : Stk → Prop}
    (F : Fr h₀ L s.heap m) (N : News h₀ L s.heap (TS.led S R c))
    (h : wpAny M A t (TsMid h₀ L m S R K s) E s)
    (k : ∀ h' tk c', Fr h₀ L h' m → News h₀ L h' (TS.led S R c') → TSOk S R K c' → P Flow.next { s with heap := h', toks := tk }) : wpAny M A t P E s :=
  wpAny_mono h (fun f s' q => by obtain ⟨rfl, h', tk, c', h1, h2, h3, rfl⟩ := q; exact k h' tk c' h1 h2 h3) fun _ _ e => e
local macro_rules | `(tactic| k_offL) => wk ["exec ( PySem.Stmt.If _ _ _ _ ) _", "exec ( PySem.Stmt.While _ _ _ _ ) _", "exec ( PySem.Stmt.For _ _ _ _ _ ) _", "eval ( PySem.Expr.ListComp _ _ _ _ ) _", "call ( Value.ref 227 ) _", "pyIter ( Value.ref _ )"]
set_option maxHeartbeats 8000000 in
theorem things_spec {w : World} {mean : ExcName → Option Value} {mg mb : Str → Option Value}
    {dp un : Nat} {gd : Option (List Code)} {cn : Str} {cs : Scope} {a : Addr} {ccd : Value} {cl : List (Str × Addr)} {outer : List Env} {A₀ : Around} {base h₀ : Heap} {L : Addr} {m : Str → Option Value} {s : Shared}
    {Q E : Value → Shared → Prop} {news : List (Addr × Obj)} {tw : Tok} {nd : Nat} {d : Dat} (hok : NoteOk nd d) (hz : (noteTx d).length ≤ 100000)
    (B : Below A₀ base outer h₀) (F : Fr h₀ L s.heap m) (X : (Mine.hd.heap_39 w.params).In h₀) (N : News h₀ L s.heap news) (T : Top Mine.vw (looseW Mine.vw [Str.ofString "ROUND"]) mean mg mb h₀) (hk : cs.kind = .function)
    (hd : dp + 2 < 1000) (hu : un + 32 < 9900)
    (hret : ∀ v tl h' tk', DatIn (tl ++ news) v (.list [d]) → Fr h₀ L h' m → News h₀ L h' (tl ++ news) → Q v { s with heap := h', toks := tk' }) :
    wpAny (model PySem.Challenge.rw_sj0098_01.row.prog w) (ktrTop dp un gd cn cs L a ccd cl outer) (call (.ref 295) [.str (tx (noteTx d)) tw]) Q E s := by
  rw [← text_wds d] at hz ⊢
  have hws := ok_wds nd d hok
  have f2 : (wds d).map Wd.tx ≠ [] := fun e => wds_ne d (List.map_eq_nil_iff.mp e)
  have f3 : ∀ q ∈ (wds d).map Wd.tx, 32 ∉ q := by
    intro q hq
    obtain ⟨x, hx, rfl⟩ := List.mem_map.mp hq
    exact word_free (hws x hx)
  have hrun := run_wds d [] []
  have hsum := wsum_text (wds d)
  generalize wds d = ws at *
  refine wpAny_call ?_
  w_strict (
    k_dflt ktr_enter
    kbt_split
    (rename Fr _ _ _ _ => F9)
    (with_unfolding_all refine' For_invVF F9 ?k1 ?k2 ?_; (case k1 => exact rfl); (case k2 => exact rfl); k_whole)
    kbt_split
    rename TxAll _ _ => hT9
    rename News _ _ _ _ => N9
    rename Fr _ _ _ _ => F9
    rename ∀ p ∈ _ :: _, _ => lw9
    rename _ ∧ AllLt _ _ => ls9
    rename ∀ p ∈ news, _ => lt9
    obtain ⟨N8, hap⟩ := st_enter N9 lw9 ls9 lt9
    clear N9
    refine' m_listS (σ := TS) (TS.led _ ((_, _) :: news)) (fun _ => []) [Str.ofString "rest", Str.ofString "core", Str.ofString "opens", Str.ofString "closes", Str.ofString "lap", Str.ofString "done"] (fun i c => TSOk _ ((_, _) :: news) (KW [[d]] 100002 (ws.drop i)) c) ⟨0, ⟨_, [], 0⟩, [], [], [], []⟩ rfl (fun d => mem_R (List.mem_append_right _ (.head _))) F9 N8 (fun _ h => h) (fun _ h => nomatch h) ⟨hap, .cons .nil .nil, ⟨hrun, by show 1 + wsum ws ≤ _; omega⟩, fun _ _ _ h => nomatch h⟩ ?turn ?done
    · intro i v c u h tk own hv hoff hP F1 N1
      obtain ⟨x, t9, rfl, hx, hdrop⟩ := word_at hT9 hv
      obtain ⟨hA, hC, hK, hsep⟩ := hP
      have hown := own_R hoff
      rw [hdrop] at hK
      have N2 := st_own ▸ N1
      have hA2 := hA.own hoff
      have hok9 := hws x hx
      have hlen9 : x.tx.length ≤ 100000 := Nat.le_trans (joinL_le [32] _ _ (List.mem_map.mpr ⟨x, hx, rfl⟩)) hz
      have hwl := word_len x
      dsimp only [kstB] at F1
      clear F9 N8 N1
      rw [List.append_assoc] at N2 hA2
      k_offL
      refine if_same ?_ fun tk9 => ?_
      · by_cases hcore : x.core = []
        · have hbare := hok9.bare ((core_nil hok9).mp hcore)
          kbt_split
          all_goals first | exact ⟨rfl, _, rfl⟩ | (exfalso; omega)
        · kbt_split
          all_goals exact ⟨rfl, _, rfl⟩
      kbt_split
      (rename Fr _ _ _ _ => F9)
      (with_unfolding_all refine' For_invVF F9 ?ka1 ?kb1 ?_; (case ka1 => exact rfl); (case kb1 => exact rfl); k_whole)
      kbt_split
      (rename IsRange _ _ _ _ _ _ _ _ => hR)
      (rename Fr _ _ _ _ => F9)
      (rename News _ _ _ _ => N9)
      refine' m_rangeS (n := x.o) (σ := TS) (TS.led _ (((_, _) :: news) ++ own)) (fun _ => []) [] (fun k c8 => TSOk _ (((_, _) :: news) ++ own) (KO [[d]] 100002 x (ws.drop (i + 1)) k) c8) c rfl hR (small_one (by omega) (by omega) (by omega) (by omega)) (by rw [rangeSize_nat]; omega) F9 N9 (fun _ h => .tail _ h) (fun _ h => nomatch h) ⟨hA2, hC, hK.open, sep_own hsep hown⟩ ?_ ?_
      · intro k kk t8 c8 u8 h8 tk8 own8 hk8 _ hoff8 hP8 F8 N8
        obtain ⟨hA8, hC8, hK8, hS8⟩ := hP8
        have N7 := st_own ▸ N8
        have A7 := hA8.own hoff8
        have hb8 : c8.b.length ≤ 1000000 := by have := hC8.room; have := hK8.2; omega
        dsimp only [kstB] at F8
        clear F9 N9 N8 hA hA2 hap N2
        kbt_split
        (rename Ap _ _ _ _ => A6)
        refine' m_endS ⟨c8.sn + 1, ⟨_, [], 0⟩, c8.t :: c8.b, c8.rest, [], c8.dt :: c8.db⟩ (by k_asm) (by assumption) (stk_mono fun p hp => List.mem_append_left _ hp) (fun p hp => mem_R (List.mem_append_right _ hp)) (own_stk A6 (own_R hoff8)) (fun _ h => nomatch h) ?_ ⟨A6.cut, .cons .nil hC8, hK8.step hk8, hS8⟩
        kst_same
      · intro c8 u8 h8 tk8 hP8 F8 N8
        obtain ⟨hA8, hC8, hK8, hS8⟩ := hP8
        have hb8 : c8.t.vs.length ≤ 1000000 ∧ c8.b.length ≤ 1000000 := by have := hC8.room; have := hK8.2; omega
        obtain ⟨hb8, hb7⟩ := hb8
        dsimp only [kstB] at F8
        clear F9 N9 hA hA2 hap N2 hR
        k_offL
        refine ts_join (K := KC [[d]] 100002 (ws.drop (i + 1)) x.c) F8 N8 ?_ fun h6 tk6 c9 F6 N6 hP6 => ?_
        · have N7 : News _ _ _ (stkL _ c8.sn c8.t c8.b (c8.rest ++ (((_, _) :: news) ++ own))) := N8
          clear N8
          by_cases hcore : x.core = []
          · kbt_split
            exact ts_mid c8 (by k_asm) (by k_asm) ⟨hA8, hC8, hK8.pass ((core_nil hok9).mp hcore), hS8⟩
          · have hl9 : x.l ≠ none := fun e => hcore ((core_nil hok9).mpr e)
            obtain ⟨d0, hd0⟩ := Option.ne_none_iff_exists'.mp hl9
            have hn0 := hok9.leaf d0 hd0
            have hc0 : x.core = noteTx d0 := by unfold Wd.core; rw [hd0]
            kbt_split
            (rename Ap _ _ _ _ => A9)
            exact ts_mid ⟨c8.sn, ⟨c8.t.a, c8.t.vs ++ [_], c8.t.n + 1⟩, c8.b, c8.rest, c8.dt ++ [d0], c8.db⟩ (by k_asm) (by k_asm) ⟨A9, hC8.put (by assumption), hK8.put hd0, hS8⟩
        clear F8 N8 hA8 hC8 hK8 hS8 hb8 hb7 c8
        obtain ⟨hA8, hC8, hK8, hS8⟩ := hP6
        kbt_split
        (rename Fr _ _ _ _ => F9)
        (with_unfolding_all refine' For_invVF F9 ?ka2 ?kb2 ?_; (case ka2 => exact rfl); (case kb2 => exact rfl); k_whole)
        kbt_split
        (rename IsRange _ _ _ _ _ _ _ _ => hR)
        (rename Fr _ _ _ _ => F9)
        (rename News _ _ _ _ => N9)
        refine' m_rangeS (n := x.c) (σ := TS) (TS.led _ (((_, _) :: news) ++ own)) (fun _ => []) [Str.ofString "done"] (fun k c7 => TSOk _ (((_, _) :: news) ++ own) (KC [[d]] 100002 (ws.drop (i + 1)) (x.c - k)) c7) c9 rfl hR (small_one (by omega) (by omega) (by omega) (by omega)) (by rw [rangeSize_nat]; omega) F9 N9 (fun _ h => h) (fun _ h => nomatch h) ⟨hA8, hC8, hK8, hS8⟩ ?_ ?_
        · intro k kk tt7 c7 u7 h7 tk7 own7 hk7 _ hoff7 hP7 F7 N7
          obtain ⟨sn7, t7, b7, rest7, dt7, db7⟩ := c7
          obtain ⟨hA7, hC7, hK7, hS7⟩ := hP7
          dsimp only at hA7 hC7 hK7 hS7
          have e7 : x.c - k = (x.c - (k + 1)) + 1 := by omega
          rw [e7] at hK7
          obtain ⟨bd7, q7, rfl, hK6⟩ := hK7.step
          have hroom7 := hC7.room
          have hr7 := hK7.2
          cases hC7 with
          | cons hD7 hC6 =>
            cases hC6 with
            | cons hE7 hC5 =>
              (rename Cell => c6)
              (rename List Cell => b6)
              have hl7 : (c6 :: b6).length = b6.length + 1 := rfl
              have hlv : c6.vs.length ≤ 1000000 := by
                have := hE7.length
                rw [wgt_cons, wgt_cons] at hr7
                omega
              have hlt : t7.vs.length ≤ 1000000 := by omega
              have N6 : News _ _ _ (stkL _ sn7 t7 (c6 :: b6) ((rest7 ++ (((_, _) :: news) ++ own)) ++ own7)) := st_own ▸ N7
              have A6 := hA7.own hoff7
              dsimp only [kstB] at F7
              clear F9 N9 N7 hR
              kbt_split
              all_goals try (exfalso; omega)
              (rename Ap _ _ _ _ => A5)
              (rename ∀ p ∈ stkL _ _ _ _ _, p.1 < _ => l5)
              refine' m_endS ⟨sn7 + 1, ⟨c6.a, c6.vs ++ [_], c6.n + 1⟩, b6, (_, _) :: t7.led :: rest7, bd7 ++ [.tuple dt7], q7⟩ (by k_asm) (by assumption) (fun p hp => stk_cut (own := own7) p hp) (fun p hp => mem_R (.tail _ (.tail _ (List.mem_append_right _ hp)))) (own_stk (own := own7) A5 (own_grow (own_R hoff7) A6 l5)) (fun _ h => nomatch h) ?_
                ⟨Ap.cut (own := own7) A5, .cons (DatAll.snoc' (hE7.mono fun p hp => .tail _ (.tail _ hp)) (.tuple (.head _) (hD7.mono fun p hp => .tail _ (.tail _ hp)))) (hC5.mono fun p hp => .tail _ (.tail _ hp)), hK6, sep_grow hS7 A6 l5⟩
              kst_same
        · intro c6 u6 h6 tk6 hP6 F6 N6
          obtain ⟨hA6, hC6, hK6, hS6⟩ := hP6
          rw [Nat.sub_self] at hK6
          have A4 := hA6
          rw [← List.append_assoc] at A4
          have N5 : News _ _ _ (stkL _ c6.sn c6.t c6.b (c6.rest ++ (((_, _) :: news) ++ own))) := N6
          rw [← List.append_assoc] at N5
          dsimp only [kstB] at F6
          clear F9 N9 hR N6
          kbt_split
          refine' m_endS c6 (by k_asm) N5 stk_cut (fun p hp => mem_R (List.mem_append_right _ hp)) (own_stk A4 (fun p hp q hq => (List.mem_append.mp hq).elim (fun hq => hS6 p (List.mem_append_right _ hp) q hq) fun hq => hown p hp q (List.mem_append_right _ hq))) (fun _ h => nomatch h) ?_ ⟨A4.cut, hC6, hK6.done, fun p hp q hq => hS6 p (List.mem_append_left _ hp) q hq⟩
          kst_same
    · intro c u h tk hP F1 N1
      obtain ⟨sn, t, b, rest, dt, db⟩ := c
      obtain ⟨hA, hC, hK, _⟩ := hP
      dsimp only at hA hC hK
      have hl9 := hT9.length
      rw [List.length_map] at hl9
      rw [hl9, List.drop_of_length_le (Nat.le_refl _)] at hK
      have e9 := Option.some.inj hK.1
      cases e9
      cases hC with
      | cons h1 h2 =>
        cases h2
        dsimp only [kstB] at F1
        have N2 : News _ _ _ ((_, W.listOf #[.ref t.a] sn) :: (t.a, W.listOf t.vs.toArray t.n) :: (rest ++ ((_, _) :: news))) := N1
        clear F9 N8 N1
        kbt_split
        exact hret _ ((_, W.listOf #[.ref t.a] sn) :: (t.a, W.listOf t.vs.toArray t.n) :: (rest ++ [(_, _)])) _ _ (.list (.tail _ (.head _)) (h1.mono fun p hp => .tail _ (.tail _ (List.mem_append_left _ (List.mem_append_left _ hp))))) (by k_asm) (news_shape (by k_asm)))
end

end
local macro_rules | `(tactic| walk_at "call ref") => wl "call ( Value.ref 295 ) _" "things_spec,nd=51,d=_" "kO kZ kB kF kX kN kT kK kd ku _" "kB:a kF:a kX:a kN:a kT:a kK:e kO:s kZ:s kd:r ku:n" "v' tl' h' tk' hv' F' N'" 1
theorem fresh_Nest : True := by first | row_walk | trivial
local macro_rules | `(tactic| walk_at "none Nest 0") => `(tactic| fail)
local macro_rules | `(tactic| walk_at "none Nest 1") => `(tactic| fail)
local macro_rules | `(tactic| walk_at "none Nest 2") => `(tactic| fail)
local macro_rules | `(tactic| walk_at "none Nest 3") => `(tactic| fail)
local macro_rules | `(tactic| walk_at "none Nest 4") => `(tactic| fail)
local macro_rules | `(tactic| walk_at "none Nest 5") => `(tactic| fail)
local macro_rules | `(tactic| walk_at "none Nest 6") => `(tactic| fail)
local macro_rules | `(tactic| walk_at "none Nest 7") => `(tactic| fail)
section
-- needs: Things
theorem NoteOk.up {n : Nat} {d : Dat} (h : NoteOk n d) : NoteOk (n + 1) d := by
  induction h with
  | none n => exact .none _
  | int n i hi => exact .int _ i hi
  | str n c hc => exact .str _ c hc
  | tuple n ds _ ih => exact .tuple _ ds ih
theorem NoteOk.mono {n k : Nat} {d : Dat} (h : NoteOk n d) (hk : n ≤ k) : NoteOk k d := by
  obtain ⟨j, rfl⟩ := Nat.exists_eq_add_of_le hk
  clear hk
  induction j with
  | zero => exact h
  | succ j ih => exact ih.up
/-- the nests that stand on the stack are not too deep -/
def LevOk : Stk → Prop
  | [] => True
  | ds :: r => (r.length ≤ 50 ∧ ∀ d ∈ ds, NoteOk (50 - r.length) d) ∧ LevOk r
def dsum (ds : List Dat) : Nat := (ds.map fun d => (noteTx d).length + 1).sum
def tsum (st : Stk) : Nat := (st.map fun ds => dsum ds + 3).sum
/-- a stack that is built -/
def KN (T : Nat) (st : Stk) : Prop := LevOk st ∧ tsum st ≤ T
theorem tsum_cons (a : List Dat) (r : Stk) : tsum (a :: r) = dsum a + 3 + tsum r := by simp [tsum]
theorem dsum_snoc (a : List Dat) (d : Dat) : dsum (a ++ [d]) = dsum a + ((noteTx d).length + 1) := by simp [dsum]
theorem dsum_len (a : List Dat) : a.length ≤ dsum a := by
  induction a with
  | nil => exact Nat.le_refl _
  | cons d r ih => simp only [dsum, List.map_cons, List.sum_cons, List.length_cons] at ih ⊢; omega
theorem tsum_len (st : Stk) : st.length ≤ tsum st := by
  induction st with
  | nil => exact Nat.le_refl _
  | cons d r ih => rw [tsum_cons, List.length_cons]; omega
theorem joinL_dsum (ds : List Dat) : (joinL [32] (ds.map noteTx)).length ≤ dsum ds := by
  induction ds with
  | nil => simp [joinL]
  | cons d r ih =>
    have e : dsum (d :: r) = (noteTx d).length + 1 + dsum r := by simp [dsum]
    rw [e]
    cases r with
    | nil => simp [joinL]; omega
    | cons y r =>
      show (noteTx d ++ [32] ++ joinL [32] ((y :: r).map noteTx)).length ≤ _
      rw [List.length_append, List.length_append]
      simp only [List.length_cons, List.length_nil]
      omega
theorem tuple_len (ds : List Dat) : (noteTx (.tuple ds)).length ≤ dsum ds + 2 := by
  rw [note_tuple, List.length_cons, List.length_append]
  have := joinL_dsum ds
  simp only [List.length_cons, List.length_nil]
  omega
theorem KN.push {T : Nat} {st : Stk} (h : KN T st) (hl : st.length ≤ 50) : KN (T + 3) ([] :: st) := by
  refine ⟨⟨⟨hl, fun d hd => nomatch hd⟩, h.1⟩, ?_⟩
  have := h.2
  rw [tsum_cons]
  show 0 + 3 + tsum st ≤ T + 3
  omega
theorem KN.close {T : Nat} {a b : List Dat} {r : Stk} (h : KN T (a :: b :: r)) : KN T ((b ++ [.tuple a]) :: r) := by
  obtain ⟨⟨⟨h1, h2⟩, ⟨h3, h4⟩, h5⟩, h6⟩ := h
  rw [List.length_cons] at h1 h2
  refine ⟨⟨⟨h3, ?_⟩, h5⟩, ?_⟩
  · intro d hd
    rcases List.mem_append.mp hd with hd | hd
    · exact h4 d hd
    · rw [List.mem_singleton.mp hd]
      have e : 50 - r.length = (50 - (r.length + 1)) + 1 := by omega
      rw [e]
      exact .tuple _ a h2
  · have := tuple_len a
    rw [tsum_cons, tsum_cons] at h6
    rw [tsum_cons, dsum_snoc]
    omega
theorem KN.put {T : Nat} {a : List Dat} {r : Stk} {d : Dat} (h : KN T (a :: r)) (hd : NoteOk 0 d) (hl : (noteTx d).length ≤ 9501) : KN (T + 9502) ((a ++ [d]) :: r) := by
  obtain ⟨⟨⟨h1, h2⟩, h5⟩, h6⟩ := h
  refine ⟨⟨⟨h1, ?_⟩, h5⟩, ?_⟩
  · intro e he
    rcases List.mem_append.mp he with he | he
    · exact h2 e he
    · rw [List.mem_singleton.mp he]
      exact hd.mono (Nat.zero_le _)
  · rw [tsum_cons] at h6 ⊢
    rw [dsum_snoc]
    omega
theorem KN.mono {T T' : Nat} {st : Stk} (h : KN T st) (hT : T ≤ T') : KN T' st := ⟨h.1, Nat.le_trans h.2 hT⟩
theorem KN.room {news : List (Addr × Obj)} {t : Cell} {b : List Cell} {dt : List Dat} {db : List (List Dat)} {T : Nat} (h : CellsOk news (t :: b) (dt :: db)) (k : KN T (dt :: db)) (hT : T ≤ 100000) : b.length ≤ 50 ∧ t.vs.length ≤ 100000 ∧ b.length = db.length := by
  have h1 := h.length
  have h3 := k.1.1.1
  have h4 := k.2
  rw [List.length_cons, List.length_cons] at h1
  cases h with
  | cons a _ =>
    have := a.length
    have := dsum_len dt
    rw [tsum_cons] at h4
    omega
theorem small_len {i : Int} (h : Small i) : (noteTx (.int i)).length ≤ 9501 := by
  rw [noteTx]
  have := small_digs h
  unfold intTx
  split
  · simp only [List.length_cons]; omega
  · omega
theorem word_short {c : List Nat} (h : c ∈ WL) : (noteTx (.str (tx c))).length ≤ 9501 := by
  rw [noteTx, tx_toList]
  have : ∀ w ∈ WL, w.length ≤ 9501 := by decide
  exact this c h
/-- what stands in the menu of words -/
theorem menu_at {v : Value} {t1 t2 t3 t4 t5 t6 : Tok} (h : v ∈ [Value.none, .str (PySem.Str.ofString "le") t1, .str (PySem.Str.ofString "a-b") t2, .str (PySem.Str.ofString "x1") t3, .str (PySem.Str.ofString "-x") t4, .str (PySem.Str.ofString "--") t5, .str (PySem.Str.ofString "None") t6]) :
    ∃ d, DatIn [] v d ∧ NoteOk 0 d ∧ (noteTx d).length ≤ 9501 := by
  have hs : ∀ (x : PySem.Str) (c : List Nat) (t : Tok), x = tx c → c ∈ WL → ∃ d, DatIn [] (Value.str x t) d ∧ NoteOk 0 d ∧ (noteTx d).length ≤ 9501 := by
    intro x c t e hc
    subst e
    exact ⟨_, .str _ _, .str 0 c hc, word_short hc⟩
  simp only [List.mem_cons, List.not_mem_nil, or_false] at h
  rcases h with rfl | rfl | rfl | rfl | rfl | rfl | rfl
  · exact ⟨.none, .none, .none 0, by rw [noteTx]; decide⟩
  · exact hs _ [108, 101] _ (by decide) (by decide)
  · exact hs _ [97, 45, 98] _ (by decide) (by decide)
  · exact hs _ [120, 49] _ (by decide) (by decide)
  · exact hs _ [45, 120] _ (by decide) (by decide)
  · exact hs _ [45, 45] _ (by decide) (by decide)
  · exact hs _ [78, 111, 110, 101] _ (by decide) (by decide)

end
theorem fresh_LNote : True := by first | row_walk | trivial
local macro_rules | `(tactic| walk_at "none LNote 0") => `(tactic| fail)
section
-- needs: Nest
theorem stk_feed {h₀ h : Heap} {L S : Addr} {sn : Nat} {t : Cell} {b : List Cell} {p : Addr × Obj} {r1 r2 : List (Addr × Obj)} (N : News h₀ L h (stkL S sn t b (r1 ++ p :: r2))) : News h₀ L h (p :: stkL S sn t b (r1 ++ r2)) := by
  intro q hq
  rcases List.mem_cons.mp hq with rfl | hq
  · exact N _ (mem_R (List.mem_append_right _ (.head _)))
  · exact N _ (stk_mono (fun z hz => by
      rcases List.mem_append.mp hz with hz | hz
      · exact List.mem_append_left _ hz
      · exact List.mem_append_right _ (.tail _ hz)) q hq)
theorem feed_stk {h₀ h : Heap} {L S : Addr} {sn : Nat} {t : Cell} {b : List Cell} {p : Addr × Obj} {r1 r2 : List (Addr × Obj)} (N : News h₀ L h (p :: stkL S sn t b (r1 ++ r2))) : News h₀ L h (stkL S sn t b (r1 ++ p :: r2)) := by
  intro q hq
  rcases List.mem_cons.mp hq with rfl | hq
  · exact N _ (.tail _ (.head _))
  · rcases List.mem_cons.mp hq with rfl | hq
    · exact N _ (.tail _ (.tail _ (.head _)))
    · rcases List.mem_append.mp hq with hq | hq
      · exact N _ (.tail _ (.tail _ (.tail _ (List.mem_append_left _ hq))))
      · rcases List.mem_append.mp hq with hq | hq
        · exact N _ (.tail _ (.tail _ (.tail _ (List.mem_append_right _ (List.mem_append_left _ hq)))))
        · rcases List.mem_cons.mp hq with rfl | hq
          · exact N _ (.head _)
          · exact N _ (.tail _ (.tail _ (.tail _ (List.mem_append_right _ (List.mem_append_right _ hq)))))
theorem Ap.feed {S df : Addr} {t : Cell} {b : List Cell} {o o' : Obj} {r1 r2 : List (Addr × Obj)} (h : Ap S t b (r1 ++ (df, o) :: r2)) : Ap S t b (r1 ++ (df, o') :: r2) := by
  refine h.less fun p hp => ?_
  rcases List.mem_append.mp hp with hp | hp
  · exact ⟨p, List.mem_append_left _ hp, rfl⟩
  · rcases List.mem_cons.mp hp with rfl | hp
    · exact ⟨(df, o), List.mem_append_right _ (.head _), rfl⟩
    · exact ⟨p, List.mem_append_right _ (.tail _ hp), rfl⟩
theorem Ap.off_feed {S df : Addr} {sn : Nat} {t : Cell} {b : List Cell} {o : Obj} {r1 r2 : List (Addr × Obj)} (h : Ap S t b (r1 ++ (df, o) :: r2)) (hr : ∀ p ∈ r1 ++ r2, p.1 ≠ df) : ∀ p ∈ stkL S sn t b (r1 ++ r2), p.1 ≠ df := by
  intro p hp e
  have hno := h.off (df, o) (List.mem_append_right _ (.head _))
  rcases List.mem_cons.mp hp with rfl | hp
  · exact hno (by rw [← e]; exact .head _)
  · rcases List.mem_cons.mp hp with rfl | hp
    · exact hno (by rw [← e]; exact .tail _ (.head _))
    · rcases List.mem_append.mp hp with hp | hp
      · obtain ⟨c, hc, rfl⟩ := List.mem_map.mp hp
        exact hno (by rw [← e]; exact .tail _ (.tail _ (List.mem_map.mpr ⟨c, hc, rfl⟩)))
      · exact hr p hp e
section
variable {w : World} {mean : ExcName → Option Value} {mg mb : Str → Option Value}
    {dp un : Nat} {gd : Option (List Code)} {cn : Str} {cs : Scope} {a : Addr} {ccd : Value} {cl : List (Str × Addr)} {outer : List Env} {A₀ : Around} {base h₀ : Heap} {L : Addr} {m : Str → Option Value} {s : Shared}
    {Q E : Value → Shared → Prop} {S : Addr} {sn : Nat} {t : Cell} {b : List Cell} {r1 r2 : List (Addr × Obj)} {df : Addr} {o : Obj} {l : Addr} {n : Nat} {vs : List Value} {ns : List Int} {at' wide way : Int} {t3 tw : Tok}
theorem pick_st
    (B : Below A₀ base outer h₀) (F : Fr h₀ L s.heap m) (X : (Mine.hd.heap_39 w.params).In h₀) (N : News h₀ L s.heap (stkL S sn t b (r1 ++ (df, o) :: r2)))
    (T : Top Mine.vw (looseW Mine.vw [Str.ofString "ROUND"]) mean mg mb h₀) (hk : cs.kind = .function)
    (hA : Ap S t b (r1 ++ (df, o) :: r2)) (hne : ∀ p ∈ r1 ++ r2, p.1 ≠ df) (hl : (l, W.listOf vs.toArray n) ∈ r1 ++ r2) (hf : FeedIs w o l at' t3)
    (hI : IntsAre vs ns) (hn : vs.length ≤ 60) (h0 : 0 ≤ at') (h1 : at' < 2 ^ 60) (hw : 0 < wide) (hd : dp + 1 < 1000) (hu : un + 8 < 9900)
    (hret : ∀ r t' h' tk' o' t3, Fr h₀ L h' m → News h₀ L h' (stkL S sn t b (r1 ++ (df, o') :: r2)) → Ap S t b (r1 ++ (df, o') :: r2) → FeedIs w o' l (at' + 1) t3 → 0 ≤ r → r < wide → Q (.int r t') { s with heap := h', toks := tk' }) :
    wpAny (model PySem.Challenge.rw_sj0098_01.row.prog w) (ktrTop dp un gd cn cs L a ccd cl outer) (call (.ref 267) [.ref df, .int wide tw]) Q E s :=
  pick_spec B F X (stk_feed N) T hk (hA.off_feed hne) (mem_R hl) hf hI hn h0 h1 hw hd hu fun r t' h' tk' o' t3 F' N' hf' a b => hret r t' h' tk' o' t3 F' (feed_stk N') hA.feed hf' a b
theorem pick_st1 {p₁ : Addr × Obj}
    (B : Below A₀ base outer h₀) (F : Fr h₀ L s.heap m) (X : (Mine.hd.heap_39 w.params).In h₀) (N : News h₀ L s.heap (p₁ :: stkL S sn t b (r1 ++ (df, o) :: r2)))
    (T : Top Mine.vw (looseW Mine.vw [Str.ofString "ROUND"]) mean mg mb h₀) (hk : cs.kind = .function)
    (hA : Ap S t b (r1 ++ (df, o) :: r2)) (hne : ∀ p ∈ r1 ++ r2, p.1 ≠ df) (h₁ : ∀ p ∈ stkL S sn t b (r1 ++ (df, o) :: r2), p.1 < p₁.1) (hl : (l, W.listOf vs.toArray n) ∈ r1 ++ r2) (hf : FeedIs w o l at' t3)
    (hI : IntsAre vs ns) (hn : vs.length ≤ 60) (h0 : 0 ≤ at') (h1 : at' < 2 ^ 60) (hw : 0 < wide) (hd : dp + 1 < 1000) (hu : un + 8 < 9900)
    (hret : ∀ r t' h' tk' o' t3, Fr h₀ L h' m → News h₀ L h' (p₁ :: stkL S sn t b (r1 ++ (df, o') :: r2)) → Ap S t b (r1 ++ (df, o') :: r2) → FeedIs w o' l (at' + 1) t3 → 0 ≤ r → r < wide → Q (.int r t') { s with heap := h', toks := tk' }) :
    wpAny (model PySem.Challenge.rw_sj0098_01.row.prog w) (ktrTop dp un gd cn cs L a ccd cl outer) (call (.ref 267) [.ref df, .int wide tw]) Q E s := by
  have hdf : df < p₁.1 := h₁ (df, o) (mem_R (List.mem_append_right _ (.head _)))
  refine pick_spec (news := p₁ :: stkL S sn t b (r1 ++ r2)) B F X ?_ T hk ?_ (.tail _ (mem_R hl)) hf hI hn h0 h1 hw hd hu fun r t' h' tk' o' t3 F' N' hf' a b => hret r t' h' tk' o' t3 F' ?_ hA.feed hf' a b
  · have N1 := stk_feed (fun q hq => N q (.tail _ hq))
    intro q hq
    rcases List.mem_cons.mp hq with rfl | hq
    · exact N1 _ (.head _)
    · rcases List.mem_cons.mp hq with rfl | hq
      · exact N _ (.head _)
      · exact N1 _ (.tail _ hq)
  · intro q hq
    rcases List.mem_cons.mp hq with rfl | hq
    · exact Nat.ne_of_gt hdf
    · exact hA.off_feed hne q hq
  · have N1 : News h₀ L h' ((df, o') :: stkL S sn t _ (r1 ++ r2)) := fun q hq => N' q (by
      rcases List.mem_cons.mp hq with rfl | hq
      · exact .head _
      · exact .tail _ (.tail _ hq))
    have N2 := feed_stk N1
    intro q hq
    rcases List.mem_cons.mp hq with rfl | hq
    · exact N' _ (.tail _ (.head _))
    · exact N2 q hq
theorem num_st
    (B : Below A₀ base outer h₀) (F : Fr h₀ L s.heap m) (X : (Mine.hd.heap_39 w.params).In h₀) (N : News h₀ L s.heap (stkL S sn t b (r1 ++ (df, o) :: r2)))
    (T : Top Mine.vw (looseW Mine.vw [Str.ofString "ROUND"]) mean mg mb h₀) (hk : cs.kind = .function)
    (hA : Ap S t b (r1 ++ (df, o) :: r2)) (hne : ∀ p ∈ r1 ++ r2, p.1 ≠ df) (hl : (l, W.listOf vs.toArray n) ∈ r1 ++ r2) (hf : FeedIs w o l at' t3)
    (hI : IntsAre vs ns) (hn : vs.length ≤ 60) (h0 : 0 ≤ at') (h1 : at' < 2 ^ 59) (hd : dp + 2 < 1000) (hu : un + 16 < 9900)
    (hret : ∀ r t' h' tk' o' t3 at2, Fr h₀ L h' m → News h₀ L h' (stkL S sn t b (r1 ++ (df, o') :: r2)) → Ap S t b (r1 ++ (df, o') :: r2) → FeedIs w o' l at2 t3 → at' ≤ at2 → at2 ≤ at' + 6 → Small r → Q (.int r t') { s with heap := h', toks := tk' }) :
    wpAny (model PySem.Challenge.rw_sj0098_01.row.prog w) (ktrTop dp un gd cn cs L a ccd cl outer) (call (.ref 274) [.ref df, .int way tw]) Q E s :=
  num_spec B F X (stk_feed N) T hk (hA.off_feed hne) (mem_R hl) hf hI hn h0 h1 hd hu fun r t' h' tk' o' t3 at2 F' N' hf' a b c => hret r t' h' tk' o' t3 at2 F' (feed_stk N') hA.feed hf' a b c
end
theorem st_own2 {h₀ h : Heap} {L S : Addr} {sn : Nat} {t : Cell} {b : List Cell} {p : Addr × Obj} {r r2 own : List (Addr × Obj)} (N : News h₀ L h (stkL S sn t b (r ++ p :: r2) ++ own)) : News h₀ L h (stkL S sn t b (r ++ p :: (r2 ++ own))) := by
  rw [st_own, List.append_assoc] at N
  exact N
theorem Ap.own2 {S : Addr} {sn : Nat} {t : Cell} {b : List Cell} {p : Addr × Obj} {r r2 own : List (Addr × Obj)} (h : Ap S t b (r ++ p :: r2)) (ho : OwnOff own ((stkL S sn t b (r ++ p :: r2)).map (·.1))) : Ap S t b (r ++ p :: (r2 ++ own)) := by
  have := h.own ho
  rw [List.append_assoc] at this
  exact this
theorem st_enter0 {h₀ h : Heap} {L S T : Addr} {R : List (Addr × Obj)} (N : News h₀ L h ((S, W.listOf #[Value.ref T] 0) :: (T, W.listOf #[] 0) :: R)) (l2 : AllLt S ((T, W.listOf #[] 0) :: R)) (l3 : AllLt T R) :
    News h₀ L h (stkL S 0 ⟨T, [], 0⟩ [] ([] ++ R)) ∧ Ap S ⟨T, [], 0⟩ [] ([] ++ R) :=
  st_first N (allLt_mem l2) (allLt_mem l3)
theorem st_enter1 {h₀ h : Heap} {L S T : Addr} {R : List (Addr × Obj)} (N : News h₀ L h ((S, W.listOf #[Value.ref T] 0) :: (T, W.listOf #[] 0) :: R)) (l2 : AllLt S ((T, W.listOf #[] 0) :: R)) (l3 : AllLt T R) :
    ∃ S', S' = S ∧ News h₀ L h (stkL S 0 ⟨T, [], 0⟩ [] ([] ++ R)) ∧ Ap S ⟨T, [], 0⟩ [] ([] ++ R) := ⟨S, rfl, st_enter0 N l2 l3⟩
theorem feed_off {S df : Addr} {sn : Nat} {t : Cell} {b : List Cell} {o : Obj} {rest news own : List (Addr × Obj)} (hs : ∀ p ∈ (df, o) :: news, ∀ q ∈ rest, p.1 ≠ q.1) (hne : ∀ p ∈ news, p.1 ≠ df) (ho : OwnOff own ((stkL S sn t b (rest ++ (df, o) :: news)).map (·.1))) :
    ∀ p ∈ rest ++ (news ++ own), p.1 ≠ df := by
  intro p hp e
  rcases List.mem_append.mp hp with hp | hp
  · exact hs (df, o) (.head _) p hp e.symm
  · rcases List.mem_append.mp hp with hp | hp
    · exact hne p hp e
    · exact own_R ho p hp (df, o) (List.mem_append_right _ (.head _)) e
theorem asc {x : Addr × Obj} {r r2 own : List (Addr × Obj)} : r ++ x :: (r2 ++ own) = (r ++ x :: r2) ++ own := by simp
theorem sep_feed {df : Addr} {o o' : Obj} {rest news : List (Addr × Obj)} (hs : ∀ p ∈ (df, o) :: news, ∀ q ∈ rest, p.1 ≠ q.1) : ∀ p ∈ (df, o') :: news, ∀ q ∈ rest, p.1 ≠ q.1 := by
  intro p hp q hq
  rcases List.mem_cons.mp hp with rfl | hp
  · exact hs (df, o) (.head _) q hq
  · exact hs p (.tail _ hp) q hq
theorem own_feed {df : Addr} {o o' : Obj} {rest news own : List (Addr × Obj)} (hs : ∀ p ∈ own, ∀ q ∈ rest ++ (df, o) :: news, p.1 ≠ q.1) : ∀ p ∈ own, ∀ q ∈ rest ++ (df, o') :: news, p.1 ≠ q.1 := by
  intro p hp q hq
  rcases List.mem_append.mp hq with hq | hq
  · exact hs p hp q (List.mem_append_left _ hq)
  · rcases List.mem_cons.mp hq with rfl | hq
    · exact hs p hp (df, o) (List.mem_append_right _ (.head _))
    · exact hs p hp q (List.mem_append_right _ (.tail _ hq))
theorem KN.room2 {news : List (Addr × Obj)} {t c : Cell} {b : List Cell} {dt : List Dat} {db : List (List Dat)} {T : Nat} (h : CellsOk news (t :: c :: b) (dt :: db)) (k : KN T (dt :: db)) (hT : T ≤ 100000) : ∃ bd q, db = bd :: q ∧ c.vs.length ≤ 100000 := by
  have h4 := k.2
  cases h with
  | cons a r =>
    cases r with
    | cons a2 r2 =>
      have := a2.length
      rw [tsum_cons, tsum_cons] at h4
      refine ⟨_, _, rfl, ?_⟩
      have := dsum_len (by assumption)
      omega
/-- the menu of words -/
def menu (t1 t2 t3 t4 t5 t6 : Tok) : List Value := [Value.none, .str (PySem.Str.ofString "le") t1, .str (PySem.Str.ofString "a-b") t2, .str (PySem.Str.ofString "x1") t3, .str (PySem.Str.ofString "-x") t4, .str (PySem.Str.ofString "--") t5, .str (PySem.Str.ofString "None") t6]
set_option maxHeartbeats 8000000 in
theorem words_spec {w : World} {mean : ExcName → Option Value} {mg mb : Str → Option Value}
    {dp un : Nat} {gd : Option (List Code)} {cn : Str} {cs : Scope} {a : Addr} {ccd : Value} {cl : List (Str × Addr)} {outer : List Env} {A₀ : Around} {base h₀ : Heap} {L : Addr} {m : Str → Option Value} {s : Shared}
    {Q E : Value → Shared → Prop} {news : List (Addr × Obj)}
    (B : Below A₀ base outer h₀) (F : Fr h₀ L s.heap m) (X : (Mine.hd.heap_39 w.params).In h₀) (N : News h₀ L s.heap news) (T : Top Mine.vw (looseW Mine.vw [Str.ofString "ROUND"]) mean mg mb h₀) (hk : cs.kind = .function)
    (hd : dp + 1 < 1000) (hu : un + 8 < 9900)
    (hret : ∀ D t1 t2 t3 t4 t5 t6 h' tk', Fr h₀ L h' m → News h₀ L h' ((D, W.listOf (menu t1 t2 t3 t4 t5 t6).toArray 0) :: news) → (∀ p ∈ news, p.1 < D) → Q (.ref D) { s with heap := h', toks := tk' }) :
    wpAny (model PySem.Challenge.rw_sj0098_01.row.prog w) (ktrTop dp un gd cn cs L a ccd cl outer) (call (.ref 260) []) Q E s := by
  refine wpAny_call ?_
  w_strict (
    k_dflt ktr_enter
    kbt_split
    exact hret _ _ _ _ _ _ _ _ _ (by k_asm) (by k_asm) (by assumption))
theorem menu_sub {prog : Program} {w : World} {A : Around} {E : Value → Shared → Prop} {s : Shared} {h₀ : Heap} {L D : Addr} {news : List (Addr × Obj)} {Q : Value → Shared → Prop} {value slice : PySem.Expr} {k : Int} {u t1 t2 t3 t4 t5 t6 : Tok} (N : News h₀ L s.heap ((D, W.listOf (menu t1 t2 t3 t4 t5 t6).toArray 0) :: news)) (h0 : 0 ≤ k) (h1 : k < 7)
    (h : ∀ v d, DatIn [] v d → NoteOk 0 d → (noteTx d).length ≤ 9501 → Q v s)
    (hs : subscripted slice false (.ref D) (.int k u) = operate [.ref D, .int k u] (getItem (.ref D) (.int k u)) := by with_unfolding_all rfl) :
    wpAny (model prog w) A (subscriptTail value slice (.ref D) (.int k u)) Q E s := by
  have hl := News.isList N (.head _)
  have hk : k.toNat < (menu t1 t2 t3 t4 t5 t6).length := by show k.toNat < 7; omega
  obtain ⟨d, hd1, hd2, hd3⟩ := menu_at (List.getElem_mem hk)
  exact tail_any hl.typeIs slot_list_getitem.lookup (wpAny_getItem_list hl h0 (by omega) (x := (menu t1 t2 t3 t4 t5 t6)[k.toNat]) (by simp [hk]) (h _ d hd1 hd2 hd3)) hs
theorem sep_cut {x : Addr × Obj} {news own rest : List (Addr × Obj)} (h : ∀ p ∈ x :: (news ++ own), ∀ q ∈ rest, p.1 ≠ q.1) : ∀ p ∈ x :: news, ∀ q ∈ rest, p.1 ≠ q.1 := by
  intro p hp
  rcases List.mem_cons.mp hp with rfl | hp
  · exact h _ (.head _)
  · exact h p (.tail _ (List.mem_append_left _ hp))
section
variable {prog : Program} {w : World} {A : Around} {E : Value → Shared → Prop} {s : Shared} {h₀ : Heap} {L S : Addr} {m : Str → Option Value} {R : List (Addr × Obj)} {sn : Nat} {t : Cell} {b : List Cell} {Q : Value → Shared → Prop}
theorem st_bot {value slice : PySem.Expr} {u : Tok} {k : Int} (hk : k = 0) (N : News h₀ L s.heap (stkL S sn t [] R)) (h : Q (.ref t.a) s)
    (hs : subscripted slice false (.ref S) (.int k u) = operate [.ref S, .int k u] (getItem (.ref S) (.int k u)) := by with_unfolding_all rfl) :
    wpAny (model prog w) A (subscriptTail value slice (.ref S) (.int k u)) Q E s := by
  subst hk
  exact tail_any (News.isList N mem_S).typeIs slot_list_getitem.lookup (wpAny_getItem_list (News.isList N mem_S) (by decide) (by decide) (x := .ref t.a) rfl h) hs
theorem st_item0 {value slice : PySem.Expr} {u : Tok} {k : Int} {v : Value} {r : List Value} (hk : k = 0) (N : News h₀ L s.heap (stkL S sn t b R)) (hv : t.vs = v :: r) (h : Q v s)
    (hs : subscripted slice false (.ref t.a) (.int k u) = operate [.ref t.a, .int k u] (getItem (.ref t.a) (.int k u)) := by with_unfolding_all rfl) :
    wpAny (model prog w) A (subscriptTail value slice (.ref t.a) (.int k u)) Q E s := by
  subst hk
  have hl := News.isList N mem_T
  rw [hv] at hl
  exact tail_any hl.typeIs slot_list_getitem.lookup (wpAny_getItem_list hl (by decide) (by decide) (x := v) rfl h) hs
theorem st_lenT (N : News h₀ L s.heap (stkL S sn t b R)) (hz : t.vs.length ≤ 1000000)
    (h : Q (.int (t.vs.length : Int) (s.toks + 1)) { s with toks := s.toks + 1 + 1 }) : wpAny (model prog w) A (call (.builtin "len") [.ref t.a]) Q E s :=
  m_len N mem_T (by omega) h
theorem st_tupT (F : Fr h₀ L s.heap m) (N : News h₀ L s.heap (stkL S sn t b R)) (A' : Ap S t b R) (hz : t.vs.length ≤ 1000000)
    (h : ∀ D h', Fr h₀ L h' m → News h₀ L h' (stkL S sn t b ((D, ({ cls := .type "tuple", data := .seq t.vs.toArray } : Obj)) :: R)) → (∀ p ∈ stkL S sn t b R, p.1 < D) →
      Ap S t b ((D, ({ cls := .type "tuple", data := .seq t.vs.toArray } : Obj)) :: R) → Q (.ref D) { s with heap := h' }) : wpAny (model prog w) A (call (.type "tuple") [.ref t.a]) Q E s := by
  refine m_tupleL F N mem_T hz fun D h' F' N' l1 => h D h' F' ?_ l1 (A'.grow l1)
  intro p hp
  refine N' p ?_
  rcases List.mem_cons.mp hp with rfl | hp
  · exact .tail _ (.head _)
  · rcases List.mem_cons.mp hp with rfl | hp
    · exact .tail _ (.tail _ (.head _))
    · rcases List.mem_append.mp hp with hp | hp
      · exact .tail _ (.tail _ (.tail _ (List.mem_append_left _ hp)))
      · rcases List.mem_cons.mp hp with rfl | hp
        · exact .head _
        · exact .tail _ (.tail _ (.tail _ (List.mem_append_right _ hp)))
theorem end_pack {h : Heap} {df : Addr} {o : Obj} {rest news : List (Addr × Obj)} (N : News h₀ L h (stkL S sn t [] (rest ++ (df, o) :: news))) : News h₀ L h ((df, o) :: (((S, W.listOf (srefs t []).toArray sn) :: t.led :: rest) ++ news)) := by
  intro p hp
  refine N p ?_
  rcases List.mem_cons.mp hp with rfl | hp
  · exact mem_R (List.mem_append_right _ (.head _))
  · rcases List.mem_append.mp hp with hp | hp
    · rcases List.mem_cons.mp hp with rfl | hp
      · exact .head _
      · rcases List.mem_cons.mp hp with rfl | hp
        · exact .tail _ (.head _)
        · exact mem_R (List.mem_append_left _ hp)
    · exact mem_R (List.mem_append_right _ (.tail _ hp))
theorem end_sep {df : Addr} {o : Obj} {rest news : List (Addr × Obj)} (A' : Ap S t b (rest ++ (df, o) :: news)) (hs : ∀ p ∈ (df, o) :: news, ∀ q ∈ rest, p.1 ≠ q.1) :
    ∀ p ∈ (df, o) :: news, ∀ q ∈ (S, W.listOf (srefs t []).toArray sn) :: t.led :: rest, p.1 ≠ q.1 := by
  intro p hp q hq
  have hno := A'.off p (List.mem_append_right _ hp)
  rcases List.mem_cons.mp hq with rfl | hq
  · exact fun e => hno (by rw [e]; exact .head _)
  · rcases List.mem_cons.mp hq with rfl | hq
    · exact fun e => hno (by rw [e]; exact .tail _ (.head _))
    · exact hs p hp q hq
end
theorem dsum_one (d : Dat) : dsum [d] = (noteTx d).length + 1 := by simp [dsum]
theorem end_new {S D : Addr} {o2 : Obj} {sn : Nat} {t : Cell} {base rest : List (Addr × Obj)} (hs : ∀ p ∈ base, ∀ q ∈ rest, p.1 ≠ q.1) (l1 : ∀ p ∈ stkL S sn t [] (rest ++ base), p.1 < D) : ∀ p ∈ base, ∀ q ∈ (D, o2) :: rest, p.1 ≠ q.1 := by
  intro p hp q hq
  rcases List.mem_cons.mp hq with rfl | hq
  · exact Nat.ne_of_lt (l1 p (mem_R (List.mem_append_right _ hp)))
  · exact hs p hp q hq
/-- the stack, the feed -/
structure NS where
  c : TS
  o : Obj
  at' : Int
  t3 : Tok
def NS.led (S df : Addr) (news : List (Addr × Obj)) (d : NS) : List (Addr × Obj) := stkL S d.c.sn d.c.t d.c.b (d.c.rest ++ (df, d.o) :: news)
structure NSOk (w : World) (S df l : Addr) (news : List (Addr × Obj)) (T : Nat) (lo hi : Int) (d : NS) : Prop where
  ts : TSOk S ((df, d.o) :: news) (KN T) d.c
  feed : FeedIs w d.o l d.at' d.t3
  lo : lo ≤ d.at'
  hi : d.at' ≤ hi
section
local macro_rules | `(tactic| walk_at "call type:range") => wr "call _ [ _ ]" "range1_rows"
local macro_rules | `(tactic| kct_strs) => ws
local macro_rules | `(tactic| walk_at "call ref") => wl "call ( Value.ref 267 ) _" "pick_st" "kB kF kX kN kT kK kA kne kl kf kI kn k0 k1 kw kd ku _" "kB:a kF:a kX:a kN:s kT:a kK:e kA:s kne:s kl:s kf:s kI:s kn:s k0:o k1:o kw:o kd:r ku:n" "r' t' h' tk' o' t3' F' N' A' hf' hr0' hr1'" 1
local macro_rules | `(tactic| walk_at "call ref") => wl "call ( Value.ref 267 ) _" "pick_st1" "kB kF kX kN kT kK kA kne k9 kl kf kI kn k0 k1 kw kd ku _" "kB:a kF:a kX:a kN:s kT:a kK:e kA:s kne:s k9:s kl:s kf:s kI:s kn:s k0:o k1:o kw:o kd:r ku:n" "r' t' h' tk' o' t3' F' N' A' hf' hr0' hr1'" 1
local macro_rules | `(tactic| walk_at "call ref") => wl "call ( Value.ref 274 ) _" "num_st" "kB kF kX kN kT kK kA kne kl kf kI kn k0 k1 kd ku _" "kB:a kF:a kX:a kN:s kT:a kK:e kA:s kne:s kl:s kf:s kI:s kn:s k0:o k1:o kd:r ku:n" "r' t' h' tk' o' t3' at2' F' N' A' hf' hr0' hr1' hs'" 1
local macro_rules | `(tactic| walk_at "call ref") => wl "call ( Value.ref 260 ) _" "words_spec" "kB kF kX kN kT kK kd ku _" "kB:a kF:a kX:a kN:s kT:a kK:e kd:r ku:n" "D' t1' t2' t3' t4' t5' t6' h' tk' F' N' l1" 1
local macro_rules | `(tactic| walk_at "subscriptTail") => wl "subscriptTail _ _ ( Value.ref _ ) ( Value.int _ _ )" "menu_sub" "k1 k2 k3 _ k4" "k1:s k2:o k3:o k4:u" "v' d' hd1' hd2' hd3'" 0
local macro_rules | `(tactic| walk_at "call builtin:list.append") => wl "call ( Value.builtin _ ) [ ( Value.ref _ ) _ ]" "st_addT" "k1 k2 k3 z _" "k1:a k2:s k3:s z:c" "h' F' N' A'" 0
local macro_rules | `(tactic| walk_at "call builtin:len") => wl "call ( Value.builtin 'len ) [ ( Value.ref ( Cell.a _ ) ) ]" "st_lenT" "k1 z _" "k1:s z:o" "" 0
local macro_rules | `(tactic| walk_at "call type:tuple") => wl "call ( Value.type _ ) [ ( Value.ref ( Cell.a _ ) ) ]" "st_tupT" "k1 k2 k3 k4 _" "k1:a k2:s k3:s k4:o" "D' h' F' N' l1 A'" 0
local macro_rules | `(tactic| walk_at "subscriptTail") => wl "subscriptTail _ _ ( Value.ref ( Cell.a _ ) ) ( Value.int 0 _ )" "st_item0" "k1 k2 k3 _ k4" "k1:R k2:s k3:s k4:u" "" 0
local macro_rules | `(tactic| walk_at "subscriptTail") => wl "subscriptTail _ _ ( Value.ref _ ) ( Value.int 0 _ )" "st_bot" "k1 k2 _ k4" "k1:R k2:s k4:u" "" 0
set_option maxHeartbeats 8000000 in
theorem lnote_spec {w : World} {mean : ExcName → Option Value} {mg mb : Str → Option Value}
    {dp un : Nat} {gd : Option (List Code)} {cn : Str} {cs : Scope} {a : Addr} {ccd : Value} {cl : List (Str × Addr)} {outer : List Env} {A₀ : Around} {base h₀ : Heap} {L : Addr} {m : Str → Option Value} {s : Shared}
    {Q E : Value → Shared → Prop} {news : List (Addr × Obj)} {df : Addr} {o : Obj} {l : Addr} {n : Nat} {vs : List Value} {ns : List Int} {at' : Int} {t3 : Tok}
    (B : Below A₀ base outer h₀) (F : Fr h₀ L s.heap m) (X : (Mine.hd.heap_39 w.params).In h₀) (N : News h₀ L s.heap ((df, o) :: news))
    (T : Top Mine.vw (looseW Mine.vw [Str.ofString "ROUND"]) mean mg mb h₀) (hk : cs.kind = .function)
    (hne : ∀ p ∈ news, p.1 ≠ df) (hl : (l, W.listOf vs.toArray n) ∈ news) (hf : FeedIs w o l at' t3)
    (hI : IntsAre vs ns) (hn : vs.length ≤ 60) (h0 : 0 ≤ at') (h1 : at' < 2 ^ 50) (hd : dp + 3 < 1000) (hu : un + 32 < 9900)
    (hret : ∀ v tl d o' at2 t3 h' tk', DatIn tl v d → NoteOk 51 d → (noteTx d).length ≤ 60000 → Fr h₀ L h' m → News h₀ L h' ((df, o') :: (tl ++ news)) → (∀ p ∈ (df, o') :: news, ∀ q ∈ tl, p.1 ≠ q.1) →
      FeedIs w o' l at2 t3 → at' ≤ at2 → at2 ≤ at' + 50 → Q v { s with heap := h', toks := tk' }) :
    wpAny (model PySem.Challenge.rw_sj0098_01.row.prog w) (ktrTop dp un gd cn cs L a ccd cl outer) (call (.ref 281) [.ref df]) Q E s := by
  refine wpAny_call ?_
  w_strict (
    k_dflt ktr_enter
    kbt_split
    rename News _ _ _ _ => N9
    rename _ < _ ∧ AllLt _ news => l8
    rename _ < _ ∧ _ < _ ∧ AllLt _ news => l9
    obtain ⟨S9, hS9, N8, hap⟩ := st_enter1 N9 l9 l8
    subst hS9
    clear N9
    have hne9 : ∀ p ∈ ([] : List (Addr × Obj)) ++ news, p.1 ≠ df := hne
    have hl9 : (l, W.listOf vs.toArray n) ∈ ([] : List (Addr × Obj)) ++ news := hl
    (rename Fr _ _ _ _ => F9)
    (with_unfolding_all refine' For_invVF F9 ?ka1 ?kb1 ?_; (case ka1 => exact rfl); (case kb1 => exact rfl); k_whole)
    kbt_split
    (rename IsRange _ _ _ _ _ _ _ _ => hR)
    (rename Fr _ _ _ _ => F9)
    (rename News _ _ _ _ => N9)
    (rename Ap _ _ _ _ => A9)
    (rename FeedIs _ _ _ _ _ => f9)
    clear N8 hap hne9 hl9
    refine' m_rangeS (σ := NS) (NS.led _ df news) (fun _ => []) [Str.ofString "way", Str.ofString "turn", Str.ofString "done"] (fun i d => NSOk w _ df l news (3 + 9510 * i) at' (at' + 1 + 7 * i) d) ⟨⟨0, ⟨_, [], 0⟩, [], [], [], []⟩, _, at' + 1, _⟩ rfl hR (small_one (by omega) (by omega) (by omega) (by omega)) (rangeSize_nat _ _) F9 N9 (fun _ h => h) (fun _ h => nomatch h) ⟨⟨A9, .cons .nil .nil, ⟨⟨⟨Nat.zero_le _, fun _ h => nomatch h⟩, trivial⟩, Nat.le_refl _⟩, fun _ _ _ h => nomatch h⟩, f9, by show at' ≤ at' + 1; omega, by show at' + 1 ≤ at' + 1 + 7 * ((0 : Nat) : Int); omega⟩ ?_ ?_
    · intro i k t d u h tk own hi _ hoff hP F1 N1
      obtain ⟨⟨sn, t, b, rest, dt, db⟩, o1, at1, t1⟩ := d
      obtain ⟨⟨hA, hC, hK, hS⟩, hf1, hlo, hhi⟩ := hP
      dsimp only at hA hC hK hS hf1 hlo hhi hoff
      have N2 : News _ _ _ (stkL _ sn t b (rest ++ (df, o1) :: (news ++ own))) := st_own2 N1
      have A2 := hA.own2 hoff
      have hne9 := feed_off hS hne hoff
      have hl9 : (l, W.listOf vs.toArray n) ∈ rest ++ (news ++ own) := List.mem_append_right _ (List.mem_append_left _ hl)
      have hi5 : i < 5 := by omega
      obtain ⟨hb50, hv9, hbl⟩ := KN.room hC hK (by omega)
      dsimp only [kstB] at F1
      clear F9 N9 A9 f9 hR N1 hne hl hf
      kbt_split
      · -- brackets open
        (rename Fr _ _ _ _ => F9)
        (with_unfolding_all refine' For_invVF F9 ?ka2 ?kb2 ?_; (case ka2 => exact rfl); (case kb2 => exact rfl); k_whole)
        kbt_split
        (rename IsRange _ _ _ _ _ _ _ _ => hR)
        (rename Fr _ _ _ _ => F9)
        (rename News _ _ _ _ => N9)
        (rename Ap _ _ _ _ => A9)
        (rename FeedIs _ _ _ _ _ => f9)
        refine' m_rangeS (σ := TS) (TS.led _ ((df, _) :: (news ++ own))) (fun _ => []) [] (fun k c => TSOk _ ((df, _) :: (news ++ own)) (KN (3 + 9510 * i + 3 * k)) c) ⟨sn, t, b, rest, dt, db⟩ rfl hR (small_one (by omega) (by omega) (by omega) (by omega)) (rangeSize_nat _ _) F9 N9 (fun _ h => h) (fun _ h => nomatch h) ⟨A9, hC, hK, sep_own (base := (df, _) :: news) (sep_feed hS) (own_feed (own_R hoff))⟩ ?_ ?_
        · intro k kk t8 c8 u8 h8 tk8 own8 hk8 _ hoff8 hP8 F8 N8
          obtain ⟨sn8, t8, b8, rest8, dt8, db8⟩ := c8
          obtain ⟨hA8, hC8, hK8, hS8⟩ := hP8
          dsimp only at hA8 hC8 hK8 hS8
          have N7 : News _ _ _ (stkL _ sn8 t8 b8 ((rest8 ++ ((df, _) :: (news ++ own))) ++ own8)) := st_own ▸ N8
          have A7 := hA8.own hoff8
          obtain ⟨hb8, hv8, hbl8⟩ := KN.room hC8 hK8 (by omega)
          dsimp only [kstB] at F8
          clear F9 N9 N8 A9 hR N2 A2
          kbt_split
          · (rename Ap _ _ _ _ => A6)
            refine' m_endS ⟨sn8 + 1, ⟨_, [], 0⟩, t8 :: b8, rest8, [], dt8 :: db8⟩ (by k_asm) (by assumption) stk_cut (fun p hp => mem_R (List.mem_append_right _ hp)) (own_stk A6 (own_R hoff8)) (fun _ h => nomatch h) ?_ ⟨A6.cut, .cons .nil hC8, (hK8.push (by rw [List.length_cons]; omega)).mono (by omega), hS8⟩
            kst_same
          · refine' m_endS ⟨sn8, t8, b8, rest8, dt8, db8⟩ (by k_asm) (by assumption) stk_cut (fun p hp => mem_R (List.mem_append_right _ hp)) (own_stk A7 (own_R hoff8)) (fun _ h => nomatch h) ?_ ⟨A7.cut, hC8, hK8.mono (by omega), hS8⟩
            kst_same
        · intro c8 u8 h8 tk8 hP8 F8 N8
          obtain ⟨sn8, t8, b8, rest8, dt8, db8⟩ := c8
          obtain ⟨hA8, hC8, hK8, hS8⟩ := hP8
          dsimp only at hA8 hC8 hK8 hS8
          have N7 : News _ _ _ (stkL _ sn8 t8 b8 (rest8 ++ ((df, _) :: (news ++ own)))) := N8
          rw [asc] at hA8 N7
          dsimp only [kstB] at F8
          clear F9 N9 N8 A9 hR N2 A2
          kbt_split
          refine' m_endS ⟨⟨sn8, t8, b8, rest8, dt8, db8⟩, _, _, _⟩ (by k_asm) N7 stk_cut (fun p hp => mem_R (List.mem_append_right _ hp)) (own_stk hA8 fun p hp q hq => (List.mem_append.mp hq).elim (fun hq => hS8 p (.tail _ (List.mem_append_right _ hp)) q hq) fun hq => own_feed (own_R hoff) p hp q (List.mem_append_right _ hq)) (fun _ h => nomatch h) ?_
            ⟨⟨hA8.cut, hC8, hK8.mono (by omega), sep_cut hS8⟩, f9, by dsimp only; omega, by dsimp only; omega⟩
          kst_same
      · have hb1 : 1 ≤ b.length := by omega
        cases b with
        | nil => exact absurd hb1 (by decide)
        | cons c6 b6 =>
          have hl7 : (c6 :: b6).length = b6.length + 1 := rfl
          obtain ⟨bd, q, rfl, hv6⟩ := KN.room2 hC hK (by omega)
          kbt_split
          (rename News _ _ _ _ => N5)
          (rename Ap _ _ _ _ => A5)
          (rename FeedIs _ _ _ _ _ => f5)
          (rename ∀ p ∈ stkL _ _ _ _ _, p.1 < _ => l5)
          have A4 : ∀ o', Ap _ t (c6 :: b6) ((rest ++ (df, o') :: news) ++ own) := fun o' => by
            have := A2.feed (o' := o')
            rwa [asc] at this
          rw [asc] at A5 N5 l5
          cases hC with
          | cons hD7 hC6 =>
            cases hC6 with
            | cons hE7 hC5 =>
              refine' m_endS ⟨⟨sn + 1, ⟨c6.a, c6.vs ++ [_], c6.n + 1⟩, b6, (_, _) :: t.led :: rest, bd ++ [.tuple dt], q⟩, _, _, _⟩ (by k_asm) N5 (fun p hp => stk_cut (own := own) p hp) (fun p hp => mem_R (.tail _ (.tail _ (List.mem_append_right _ hp)))) (own_stk (own := own) A5 (own_grow (own_feed (own_R hoff)) (A4 _) l5)) (fun _ h => nomatch h) ?_
                ⟨⟨Ap.cut (own := own) A5, .cons (DatAll.snoc' (hE7.mono fun p hp => .tail _ (.tail _ hp)) (.tuple (.head _) (hD7.mono fun p hp => .tail _ (.tail _ hp)))) (hC5.mono fun p hp => .tail _ (.tail _ hp)), hK.close.mono (by omega), sep_grow (sep_feed hS) (A4 _) l5⟩, f5, by dsimp only; omega, by dsimp only; omega⟩
              kst_same
      · (rename News _ _ _ _ => N5)
        (rename Ap _ _ _ _ => A5)
        (rename FeedIs _ _ _ _ _ => f5)
        rw [asc] at A5 N5
        refine' m_endS ⟨⟨sn, t, b, rest, dt, db⟩, _, _, _⟩ (by k_asm) N5 stk_cut (fun p hp => mem_R (List.mem_append_right _ hp)) (own_stk A5 (own_feed (own_R hoff))) (fun _ h => nomatch h) ?_ ⟨⟨A5.cut, hC, hK.mono (by omega), sep_feed hS⟩, f5, by dsimp only; omega, by dsimp only; omega⟩
        kst_same
      · kbt_split
        (rename News _ _ _ _ => N5)
        (rename Ap _ _ _ _ => A5)
        (rename FeedIs _ _ _ _ _ => f5)
        (rename DatIn [] _ _ => hd1)
        (rename NoteOk 0 _ => hd2)
        (rename (noteTx _).length ≤ 9501 => hd3)
        rw [asc] at A5 N5
        refine' m_endS ⟨⟨sn, ⟨t.a, t.vs ++ [_], t.n + 1⟩, b, rest, dt ++ [_], db⟩, _, _, _⟩ (by k_asm) N5 stk_cut (fun p hp => mem_R (List.mem_append_right _ hp)) (own_stk A5 (own_feed (own_R hoff))) (fun _ h => nomatch h) ?_ ⟨⟨A5.cut, hC.put hd1, (hK.put hd2 hd3).mono (by omega), sep_feed hS⟩, f5, by dsimp only; omega, by dsimp only; omega⟩
        kst_same
      · (rename News _ _ _ _ => N5)
        (rename Ap _ _ _ _ => A5)
        (rename FeedIs _ _ _ _ _ => f5)
        (rename Small _ => hs9)
        rw [asc] at A5 N5
        refine' m_endS ⟨⟨sn, ⟨t.a, t.vs ++ [_], t.n + 1⟩, b, rest, dt ++ [_], db⟩, _, _, _⟩ (by k_asm) N5 stk_cut (fun p hp => mem_R (List.mem_append_right _ hp)) (own_stk A5 (own_feed (own_R hoff))) (fun _ h => nomatch h) ?_ ⟨⟨A5.cut, hC.put (.int _ _), (hK.put (.int 0 _ hs9) (small_len hs9)).mono (by omega), sep_feed hS⟩, f5, by dsimp only; omega, by dsimp only; omega⟩
        kst_same
    · intro d u h tk hP F1 N1
      obtain ⟨⟨sn, t, b, rest, dt, db⟩, o1, at1, t1⟩ := d
      obtain ⟨⟨hA, hC, hK, hS⟩, hf1, hlo, hhi⟩ := hP
      dsimp only at hA hC hK hS hf1 hlo hhi
      have N2 : News _ _ _ (stkL _ sn t b (rest ++ (df, o1) :: news)) := N1
      replace hK := hK.mono (T' := 50000) (by omega)
      dsimp only [kstB] at F1
      clear F9 N9 A9 f9 hR N1 hf
      kbt_split
      (rename Fr _ _ _ _ => F9)
      k_dflt (refine' ksw_while (σ := TS) (TS.led S9 ((df, o1) :: news)) (fun _ => []) (fun _ => True) [Str.ofString "done"] (fun c => TSOk S9 ((df, o1) :: news) (KN 50000) c) (fun c => c.b.length) ⟨sn, t, b, rest, dt, db⟩ F9 N2 trivial ?hkw ?hpw ?turnw ?hEw)
      (case hkw => exact fun _ h => nomatch h)
      (case hpw => exact ⟨hA, hC, hK, hS⟩)
      (case hEw => first | passes_own | with_unfolding_all passes_own)
      intro c u hH tkC _ hP FC NC
      clear F9 N2 hA hC hK hS
      obtain ⟨sn, t, b, rest, dt, db⟩ := c
      obtain ⟨hA, hC, hK, hS⟩ := hP
      dsimp only at hA hC hK hS
      have N2 : News _ _ _ (stkL _ sn t b (rest ++ (df, o1) :: news)) := NC
      obtain ⟨hb50, hv9, hbl⟩ := KN.room hC hK (by omega)
      dsimp only [kstB] at FC
      clear NC
      kbt_split
      · have hb1 : 1 ≤ b.length := by omega
        cases b with
        | nil => exact absurd hb1 (by decide)
        | cons c6 b6 =>
          have hl7 : (c6 :: b6).length = b6.length + 1 := rfl
          obtain ⟨bd, q, rfl, hv6⟩ := KN.room2 hC hK (by omega)
          kbt_split
          (rename News _ _ _ _ => N5)
          (rename Ap _ _ _ _ => A5)
          (rename ∀ p ∈ stkL _ _ _ _ _, p.1 < _ => l5)
          have A4 : Ap S9 t (c6 :: b6) ((rest ++ (df, o1) :: news) ++ []) := by rw [List.append_nil]; exact hA
          cases hC with
          | cons hD7 hC6 =>
            cases hC6 with
            | cons hE7 hC5 =>
              refine' ksw_end ⟨sn + 1, ⟨c6.a, c6.vs ++ [_], c6.n + 1⟩, b6, (_, _) :: t.led :: rest, bd ++ [.tuple dt], q⟩ (by k_asm) N5 (fun p hp => hp) trivial (fun _ h => nomatch h) ?_
                ⟨A5, .cons (DatAll.snoc' (hE7.mono fun p hp => .tail _ (.tail _ hp)) (.tuple (.head _) (hD7.mono fun p hp => .tail _ (.tail _ hp)))) (hC5.mono fun p hp => .tail _ (.tail _ hp)), hK.close, sep_grow hS A4 (by rw [List.append_nil]; exact l5)⟩ (Nat.lt_succ_self _)
              ksw_same
      · have hb0 : b = [] := List.length_eq_zero_iff.mp (by omega)
        subst hb0
        have hq0 : db = [] := List.length_eq_zero_iff.mp hbl.symm
        subst hq0
        have hne9 : ∀ p ∈ rest ++ news, p.1 ≠ df := by
          intro p hp e
          rcases List.mem_append.mp hp with hp | hp
          · exact hS (df, o1) (.head _) p hp e.symm
          · exact hne p hp e
        have hl9 : (l, W.listOf vs.toArray n) ∈ rest ++ news := List.mem_append_right _ hl
        kbt_split
        · obtain ⟨v9, hv1⟩ := List.length_eq_one_iff.mp (show t.vs.length = 1 by omega)
          kbt_split
          (rename News _ _ _ _ => N5)
          (rename Ap _ _ _ _ => A5)
          (rename FeedIs _ _ _ _ _ => f5)
          cases hC with
          | cons hD _ =>
            rw [hv1] at hD
            cases hD with
            | cons h1 h2 =>
              cases h2
              have hlen : (noteTx (by assumption)).length ≤ 60000 := by
                have h1 := hK.2
                rw [tsum_cons, dsum_one] at h1
                omega
              exact hret _ ((S9, W.listOf (srefs t []).toArray sn) :: t.led :: rest) _ _ _ _ _ _ (h1.mono fun p hp => .tail _ (.tail _ hp)) ((hK.1.1.2 _ (.head _)).mono (by decide)) hlen (by k_asm) (end_pack N5) (end_sep A5 (sep_feed hS)) f5 (by omega) (by omega)
        · (rename ∀ p ∈ stkL _ _ _ _ _, p.1 < _ => l5)
          (rename News _ _ _ _ => N5)
          (rename Ap _ _ _ _ => A5)
          (rename FeedIs _ _ _ _ _ => f5)
          cases hC with
          | cons hD _ =>
            have hlen : (noteTx (.tuple dt)).length ≤ 60000 := by
              have h1 := hK.2
              have h2 := tuple_len dt
              rw [tsum_cons] at h1
              omega
            exact hret _ ((S9, W.listOf (srefs t []).toArray sn) :: t.led :: (_, _) :: rest) _ _ _ _ _ _ (.tuple (.tail _ (.tail _ (.head _))) (hD.mono fun p hp => .tail _ (.tail _ (.tail _ hp)))) (.tuple 50 dt fun d hd => hK.1.1.2 d hd) hlen (by k_asm) (end_pack N5) (end_sep A5 (end_new (sep_feed hS) l5)) f5 (by omega) (by omega)
        · (rename ∀ p ∈ stkL _ _ _ _ _, p.1 < _ => l5)
          (rename News _ _ _ _ => N5)
          (rename Ap _ _ _ _ => A5)
          (rename FeedIs _ _ _ _ _ => f5)
          cases hC with
          | cons hD _ =>
            have hlen : (noteTx (.tuple dt)).length ≤ 60000 := by
              have h1 := hK.2
              have h2 := tuple_len dt
              rw [tsum_cons] at h1
              omega
            exact hret _ ((S9, W.listOf (srefs t []).toArray sn) :: t.led :: (_, _) :: rest) _ _ _ _ _ _ (.tuple (.tail _ (.tail _ (.head _))) (hD.mono fun p hp => .tail _ (.tail _ (.tail _ hp)))) (.tuple 50 dt fun d hd => hK.1.1.2 d hd) hlen (by k_asm) (end_pack N5) (end_sep A5 (end_new (hS) l5)) f5 (by omega) (by omega))
end

end
local macro_rules | `(tactic| walk_at "call ref") => wl "call ( Value.ref 281 ) _" "lnote_spec" "kB kF kX kN kT kK kne kl kf kI kn k0 k1 kd ku _" "kB:a kF:a kX:a kN:b kT:a kK:e kne:A kl:m kf:s kI:s kn:s k0:o k1:o kd:r ku:n" "v' tl' d' o' at2' t3' h' tk' hv' hd' hz' F' N' hs' hf' hl' hu'" 1
theorem fresh_PText : True := by first | row_walk | trivial
local macro_rules | `(tactic| walk_at "none PText 0") => `(tactic| fail)
local macro_rules | `(tactic| walk_at "none PText 1") => `(tactic| fail)
local macro_rules | `(tactic| walk_at "none PText 2") => `(tactic| fail)
local macro_rules | `(tactic| walk_at "none PText 3") => `(tactic| fail)
local macro_rules | `(tactic| walk_at "none PText 4") => `(tactic| fail)
local macro_rules | `(tactic| walk_at "none PText 5") => `(tactic| fail)
local macro_rules | `(tactic| walk_at "none PText 6") => `(tactic| fail)
local macro_rules | `(tactic| walk_at "none PText 7") => `(tactic| fail)
local macro_rules | `(tactic| walk_at "none PText 8") => `(tactic| fail)
local macro_rules | `(tactic| walk_at "none PText 9") => `(tactic| fail)
local macro_rules | `(tactic| walk_at "none PText 10") => `(tactic| fail)
section
-- needs: LNote
theorem intTx_small : ∀ k : Fin 19, PySem.Str.ofString (toString ((k.val : Int) - 9)) = tx (intTx ((k.val : Int) - 9)) := by decide +kernel
theorem intTx_of {a : Int} (h0 : -9 ≤ a) (h1 : a ≤ 9) : PySem.Str.ofString (toString a) = tx (intTx a) := by
  have := intTx_small ⟨(a + 9).toNat, by omega⟩
  have e : (((a + 9).toNat : Nat) : Int) - 9 = a := by omega
  simpa only [e] using this
theorem ten_big : (9 : Nat) < 10 ^ 4300 := Nat.lt_of_lt_of_le (by decide : 9 < 10 ^ 1) (Nat.pow_le_pow_right (by decide) (by decide))
theorem intTx_short {i : Int} (h0 : -9 ≤ i) (h1 : i ≤ 9) : (intTx i).length ≤ 2 := by
  have h : ∀ k : Fin 19, (intTx ((k.val : Int) - 9)).length ≤ 2 := by decide +kernel
  have := h ⟨(i + 9).toNat, by omega⟩
  have e : (((i + 9).toNat : Nat) : Int) - 9 = i := by omega
  simpa only [e] using this
theorem row_short {ns : List Int} (hs : ∀ i ∈ ns, -9 ≤ i ∧ i ≤ 9) (hc : ns.length ≤ 60) : (joinL [32] (ns.map intTx)).length ≤ 1000 := by
  have h : ∀ l : List Int, (∀ i ∈ l, -9 ≤ i ∧ i ≤ 9) → (joinL [32] (l.map intTx)).length ≤ 3 * l.length := by
    intro l
    induction l with
    | nil => intro _; simp [joinL]
    | cons a r ih =>
      intro hl
      have h1 := hl a (.head _)
      have h2 := intTx_short h1.1 h1.2
      have h3 := ih fun i hi => hl i (.tail _ hi)
      cases r with
      | nil => simp [joinL]; omega
      | cons b r =>
        show (intTx a ++ [32] ++ joinL [32] ((b :: r).map intTx)).length ≤ _
        rw [List.length_append, List.length_append]
        simp only [List.length_cons, List.length_nil] at h3 ⊢
        omega
  have := h ns hs
  omega
theorem small_nine {a : Int} (h0 : -9 ≤ a) (h1 : a ≤ 9) : Small a := by
  unfold Small
  have : (9 : Nat) < 10 ^ 9500 := Nat.lt_of_lt_of_le (by decide : 9 < 10 ^ 1) (Nat.pow_le_pow_right (by decide) (by decide))
  omega
section
variable {prog : Program} {w : World} {A : Around} {E : Value → Shared → Prop} {s : Shared} {h₀ : Heap} {L l : Addr} {m : Str → Option Value} {p : Program} {loose : List Str} {mean : ExcName → Option Value} {mg mb : Str → Option Value} {news : List (Addr × Obj)} {us : List Value} {n : Nat}
theorem m_strS {a : Int} {t : Tok} {Q : Value → Shared → Prop} (F : Fr h₀ L s.heap m) (T : Top p loose mean mg mb h₀) (hh : A.handled = none) (h0 : -9 ≤ a) (h1 : a ≤ 9)
    (h : Q (.str (tx (intTx a)) s.toks) { s with toks := s.toks + 1 }) : wpAny (model prog w) A (call (.type "str") [.int a t]) Q E s := by
  refine str_of_int_or hh (Heap.NoDigits.keeps (Top.nodigits T) (Fr.keep F)) (fun _ => ?_) (fun hge => ?_)
  · rw [intTx_of h0 h1]
    exact h
  · exfalso
    have := ten_big
    generalize (10 : Nat) ^ 4300 = R at hge this
    omega
theorem m_lenT {Q : Value → Shared → Prop} (N : News h₀ L s.heap news) (hm : (l, ({ cls := .type "tuple", data := .seq us.toArray n } : Obj)) ∈ news) (hfit : us.length < 2 ^ 62)
    (h : Q (.int (us.length : Int) (s.toks + 1)) { s with toks := s.toks + 1 + 1 }) : wpAny (model prog w) A (call (.builtin "len") [.ref l]) Q E s := by
  have e : us.toArray.size = us.length := by simp
  exact len_tuple (News.isTup N hm) (by rw [e]; omega) (by rw [e]; exact h)
theorem ints_mem {vs : List Value} {ns : List Int} (h : IntsAre vs ns) {v : Value} (hv : v ∈ vs) : ∃ i t, i ∈ ns ∧ v = .int i t := by
  induction h with
  | nil => cases hv
  | cons k t r ih =>
    rcases List.mem_cons.mp hv with rfl | hv
    · exact ⟨k, t, .head _, rfl⟩
    · obtain ⟨i, t, hi, e⟩ := ih hv
      exact ⟨i, t, .tail _ hi, e⟩
theorem ints_tx {vs : List Value} {ns : List Int} (h : IntsAre vs ns) {css : List (List Nat)} (hp : Paired (fun v c => ∃ i t, v = Value.int i t ∧ c = intTx i) vs css) : css = ns.map intTx := by
  induction h generalizing css with
  | nil => cases hp; rfl
  | cons k t r ih =>
    cases hp with
    | cons hF ht =>
      obtain ⟨i, t, e, rfl⟩ := hF
      injection e with e _
      subst e
      rw [List.map_cons, ih ht]
end
section
local macro_rules | `(tactic| kct_strs) => ws
local macro_rules | `(tactic| tb_rel) => `(tactic| assumption)
local macro_rules | `(tactic| walk_at "call builtin:len") => wl "call ( Value.builtin 'len ) [ ( Value.ref _ ) ]" "m_lenT" "k1 k2 k3 _" "k1:a k2:s k3:o" "" 0
local macro_rules | `(tactic| walk_at "call type:str") => wl "call ( Value.type 'str ) [ ( Value.int _ _ ) ]" "m_strS" "q1 q2 q3 q4 q5 _" "q1:a q2:a q3:f q4:s q5:s" "" 0
set_option maxHeartbeats 8000000 in
theorem row_spec {w : World} {mean : ExcName → Option Value} {mg mb : Str → Option Value}
    {dp un : Nat} {gd : Option (List Code)} {cn : Str} {cs : Scope} {a : Addr} {ccd : Value} {cl : List (Str × Addr)} {outer : List Env} {A₀ : Around} {base h₀ : Heap} {L : Addr} {m : Str → Option Value} {s : Shared}
    {Q E : Value → Shared → Prop} {news : List (Addr × Obj)} {c : Addr} {n : Nat} {vs : List Value} {ns : List Int} (hs : ∀ i ∈ ns, -9 ≤ i ∧ i ≤ 9) (hcount : ns.length ≤ 60) (hcm : (c, ({ cls := .type "tuple", data := .seq vs.toArray n } : Obj)) ∈ news) (hI : IntsAre vs ns)
    (B : Below A₀ base outer h₀) (F : Fr h₀ L s.heap m) (X : (Mine.hd.heap_39 w.params).In h₀) (N : News h₀ L s.heap news) (T : Top Mine.vw (looseW Mine.vw [Str.ofString "ROUND"]) mean mg mb h₀) (hk : cs.kind = .function)
    (hd : dp + 2 < 1000) (hu : un + 32 < 9900)
    (hret : ∀ t h' tk', Fr h₀ L h' m → News h₀ L h' news → KeepH s.heap h' → Q (.str (tx (rowTx ns)) t) { s with heap := h', toks := tk' }) :
    wpAny (model PySem.Challenge.rw_sj0098_01.row.prog w) (ktrTop dp un gd cn cs L a ccd cl outer) (call (.ref 232) [.ref c]) Q E s := by
  have hvl := hI.length
  have hjl : (joinL [32] (ns.map intTx)).length ≤ 1000 := row_short hs hcount
  have hjs := joinL_sum (ns.map intTx)
  rw [List.length_map] at hjs
  refine wpAny_call ?_
  w_strict (
    k_dflt kbo_bools
    kbt_split
    · have h0 : ns = [] := List.length_eq_zero_iff.mp (by omega)
      subst h0
      rw [show PySem.Str.ofString "-" = tx (rowTx []) by decide]
      exact hret _ _ _ (by k_asm) (by k_asm) (keep_of (by assumption) N (by k_asm) (by k_asm) fun _ h => h)
    · have h0 : ns ≠ [] := by intro e; rw [e, List.length_nil] at hvl; omega
      k_dflt (refine' m_compTx (cl := []) (fun v c => ∃ i t, v = Value.int i t ∧ c = intTx i) rfl ?clos ?cell ?kind ?names ?x ?h ?s)
      (case clos => exact closureFor_none (by decide))
      (case cell => decide)
      (case kind => rfl)
      (case names => decide)
      (case x => rfl)
      (case s => intro _; rfl)
      kbt_split
      (rename Fr _ _ _ _ => F9)
      (rename News _ _ _ _ => N9)
      refine ⟨_, _, _, _, _, _, rfl, .inr (News.isTup N9 hcm), ?_, F9, N9, ?_, ?_⟩
      · rw [sizeLine_eq]
        omega
      · intro C v s₃ m₃ E' hv hns hm3 hkeep
        have F3 := F9.keeps hkeep
        have N3 := N9.grown hkeep
        obtain ⟨i, t, hi, rfl⟩ := ints_mem hI hv
        obtain ⟨hi0, hi1⟩ := hs i hi
        clear F9 N9
        kbt_split
        exact ⟨_, _, rfl, KeepH.refl _⟩
      · intro D n' ys css h' tk' F1 N1 ht hp hkeep
        have hcss := ints_tx hI hp
        subst hcss
        clear F9 N9
        kbt_split
        rw [show joinL [32] (ns.map intTx) = rowTx ns by unfold rowTx; rw [if_neg h0]]
        exact hret _ _ _ (by k_asm) (kst_newsOf (by assumption) (fun p hp => .tail _ hp)) (keep_of (by assumption) N (by k_asm) (by k_asm) fun _ h => .tail _ h))
end

end
theorem fresh_Add : True := by first | row_walk | trivial
local macro_rules | `(tactic| walk_at "none Add 0") => `(tactic| fail)
local macro_rules | `(tactic| walk_at "none Add 1") => `(tactic| fail)
local macro_rules | `(tactic| walk_at "none Add 2") => `(tactic| fail)
section
-- needs: PText
/-- the clauses of the menu -/
def CL : List (List Int) := [[], [1], [-1, 2], [-2, -3, 5]]
theorem CL_len {ns : List Int} (h : ns ∈ CL) : ns.length ≤ 3 := by
  have : ∀ l ∈ CL, l.length ≤ 3 := by decide
  exact this ns h
theorem tidy_at {ns : List Int} (h : ns ∈ CL) {i : Nat} {x : Int} (hx : ns[i]? = some x) : x ≠ 0 ∧ ∀ j y, i = j + 1 → ns[j]? = some y → y.natAbs < x.natAbs := by
  have H : ∀ l ∈ CL, ∀ i, i < 3 → ∀ x ∈ l[i]?, x ≠ 0 ∧ ∀ j, j < 3 → ∀ y ∈ l[j]?, i = j + 1 → y.natAbs < x.natAbs := by decide
  have hl := CL_len h
  have hi : i < ns.length := (List.getElem?_eq_some_iff.mp hx).1
  obtain ⟨h1, h2⟩ := H ns h i (by omega) x hx
  exact ⟨h1, fun j y e hy => h2 j (by omega) y hy e⟩
section
variable {prog : Program} {w : World} {A : Around} {E : Value → Shared → Prop} {s : Shared} {h₀ : Heap} {L l : Addr} {news : List (Addr × Obj)} {us : List Value} {n : Nat}
theorem m_itemT {value slice : PySem.Expr} {ns : List Int} {k : Int} {u : Tok} {Q : Value → Shared → Prop} (N : News h₀ L s.heap news) (hm : (l, ({ cls := .type "tuple", data := .seq us.toArray n } : Obj)) ∈ news) (hI : IntsAre us ns)
    (h0 : 0 ≤ k) (h1 : k < (us.length : Int)) (hfit : k < 2 ^ 63) (h : ∀ x t, ns[k.toNat]? = some x → Q (.int x t) s)
    (hs : subscripted slice false (.ref l) (.int k u) = operate [.ref l, .int k u] (getItem (.ref l) (.int k u)) := by with_unfolding_all rfl) :
    wpAny (model prog w) A (subscriptTail value slice (.ref l) (.int k u)) Q E s := by
  have hl := News.isTup N hm
  have hk : k.toNat < ns.length := by have := hI.length; omega
  obtain ⟨t, ht⟩ := hI.get k.toNat ns[k.toNat] (by simp [hk])
  exact tail_any hl.typeIs slot_tuple_getitem.lookup (getItem_tuple hl (by omega) hfit (seqIndex_of h0 (by simpa using h1)) (x := .int ns[k.toNat] t) (by simpa using ht) (h _ t (by simp [hk]))) hs
end
section
local macro_rules | `(tactic| kct_strs) => `(tactic| omega)
local macro_rules | `(tactic| walk_at "call builtin:len") => wl "call ( Value.builtin 'len ) [ ( Value.ref _ ) ]" "m_lenT" "k1 k2 k3 _" "k1:a k2:s|m k3:o" "" 0
local macro_rules | `(tactic| walk_at "subscriptTail") => wl "subscriptTail _ _ ( Value.ref _ ) ( Value.int _ _ )" "m_itemT" "k1 k2 k3 k4 k5 k6 _ k7" "k1:a k2:s|List.mem_append_left/_s k3:s k4:o k5:o k6:o k7:u" "x' t' hx'" 0
local macro_rules | `(tactic| walk_at "call type:range") => wr "call _ [ _ ]" "range1_rows"
set_option maxHeartbeats 8000000 in
theorem tidy_spec {w : World} {mean : ExcName → Option Value} {mg mb : Str → Option Value}
    {dp un : Nat} {gd : Option (List Code)} {cn : Str} {cs : Scope} {a : Addr} {ccd : Value} {cl : List (Str × Addr)} {outer : List Env} {A₀ : Around} {base h₀ : Heap} {L : Addr} {m : Str → Option Value} {s : Shared}
    {Q E : Value → Shared → Prop} {news : List (Addr × Obj)} {c : Addr} {n : Nat} {vs : List Value} {ns : List Int} (hcl : ns ∈ CL) (hcm : (c, ({ cls := .type "tuple", data := .seq vs.toArray n } : Obj)) ∈ news) (hI : IntsAre vs ns)
    (B : Below A₀ base outer h₀) (F : Fr h₀ L s.heap m) (X : (Mine.hd.heap_39 w.params).In h₀) (N : News h₀ L s.heap news) (T : Top Mine.vw (looseW Mine.vw [Str.ofString "ROUND"]) mean mg mb h₀) (hk : cs.kind = .function)
    (hd : dp + 2 < 1000) (hu : un + 32 < 9900)
    (hret : ∀ h' tk', Fr h₀ L h' m → News h₀ L h' news → Q (.bool true) { s with heap := h', toks := tk' }) :
    wpAny (model PySem.Challenge.rw_sj0098_01.row.prog w) (ktrTop dp un gd cn cs L a ccd cl outer) (call (.ref 93) [.ref c]) Q E s := by
  have hlen := CL_len hcl
  have hvl := hI.length
  refine wpAny_call ?_
  w_strict (
    k_dflt ktr_enter
    kbt_split
    (rename Fr _ _ _ _ => F9)
    (with_unfolding_all refine' For_invVF F9 ?ka1 ?kb1 ?_; (case ka1 => exact rfl); (case kb1 => exact rfl); k_whole)
    kbt_split
    (rename IsRange _ _ _ _ _ _ _ _ => hR)
    (rename Fr _ _ _ _ => F9)
    (rename News _ _ _ _ => N9)
    refine' m_rangeS (σ := Unit) (fun _ => news) (fun _ => []) [] (fun _ _ => True) () rfl hR (small_one (by omega) (by omega) (by omega) (by omega)) (rangeSize_nat _ _) F9 N9 (fun _ h => h) (fun _ h => nomatch h) trivial ?_ ?_
    · intro i k t d u h tk own hi hki hoff hP F1 N1
      dsimp only [kstB] at F1
      clear F9 N9 hR
      have hcm2 : (c, ({ cls := .type "tuple", data := .seq vs.toArray n } : Obj)) ∈ news ++ own := List.mem_append_left _ hcm
      kbt_split
      · (rename (_ : Int) = 0 => e0)
        (rename ns[(_ : Nat)]? = some _ => e1)
        exact absurd e0 (tidy_at hcl e1).1
      · (rename ns[(_ : Nat)]? = some _ => e1)
        (rename ns[((_ : Int) - 1).toNat]? = some _ => e2)
        (rename (_ : Int) ≤ (_ : Int) => e3)
        have e4 := (tidy_at hcl e1).2 _ _ (by omega) e2
        exfalso
        split at e3 <;> split at e3 <;> omega
      · refine' m_endS () (by k_asm) (by k_asm) (fun p hp => List.mem_append_left _ hp) (fun p hp => List.mem_append_right _ hp) hoff (fun _ h => nomatch h) ?_ trivial
        kst_same
      · refine' m_endS () (by k_asm) (by k_asm) (fun p hp => List.mem_append_left _ hp) (fun p hp => List.mem_append_right _ hp) hoff (fun _ h => nomatch h) ?_ trivial
        kst_same
    · intro d u h tk hP F1 N1
      dsimp only [kstB] at F1
      clear F9 N9 hR
      kbt_split
      exact hret _ _ (by k_asm) (by k_asm))
end

/-- the rules of the menu -/
def RL : List PySem.Str := [PySem.Str.ofString "input", PySem.Str.ofString "bits", PySem.Str.ofString "farkas", PySem.Str.ofString "divide"]
theorem add_news {h₀ h : Heap} {L : Addr} {d a b c x y : Addr × Obj} (N : News h₀ L h [d, a, b, c, x, y]) : News h₀ L h [a, b, c, d] := by
  intro p hp
  refine N p ?_
  simp only [List.mem_cons, List.not_mem_nil, or_false] at hp ⊢
  rcases hp with e | e | e | e
  · exact .inr (.inl e)
  · exact .inr (.inr (.inl e))
  · exact .inr (.inr (.inr (.inl e)))
  · exact .inl e
theorem add_keep {H g H' h₀ : Heap} {L L' : Addr} {m' : Str → Option Value} {a b c x y a' b' : Addr × Obj} {D : Addr} {od : Obj} (G : GSub H g ([a, b, c, x, y].map (·.1))) (N : News h₀ L H [a, b, c, x, y]) (F' : Fr g L' H' m') (N' : News g L' H' [(D, od), a', b', c, x, y])
    (h1 : a.1 < D ∧ b.1 < D ∧ c.1 < D ∧ x.1 < D ∧ y.1 < D) : ∀ q o, q ≠ a.1 → q ≠ b.1 → H.get? q = some o → H'.get? q = some o ∧ q ≠ D := by
  intro q o n1 n2 e
  constructor
  · have key : ∀ z : Addr × Obj, z ∈ [a, b, c, x, y] → z ∈ [(D, od), a', b', c, x, y] → q = z.1 → H'.get? q = some o := by
      intro z h1 h2 e2
      have e3 := (N z h1).1
      rw [← e2, e] at e3
      rw [e2, Option.some.inj e3]
      exact (N' z h2).1
    by_cases q1 : q = c.1
    · exact key c (.tail _ (.tail _ (.head _))) (.tail _ (.tail _ (.tail _ (.head _)))) q1
    · by_cases q2 : q = x.1
      · exact key x (.tail _ (.tail _ (.tail _ (.head _)))) (.tail _ (.tail _ (.tail _ (.tail _ (.head _))))) q2
      · by_cases q3 : q = y.1
        · exact key y (.tail _ (.tail _ (.tail _ (.tail _ (.head _))))) (.tail _ (.tail _ (.tail _ (.tail _ (.tail _ (.head _)))))) q3
        · refine F'.keep _ _ (G q o e fun hm => ?_)
          simp only [List.map_cons, List.map_nil, List.mem_cons, List.not_mem_nil, or_false] at hm
          rcases hm with e | e | e | e | e
          · exact n1 e
          · exact n2 e
          · exact q1 e
          · exact q2 e
          · exact q3 e
  · have hD : H.get? D = none := by
      cases e2 : H.get? D with
      | none => rfl
      | some o2 =>
        have := G D o2 e2 fun hm => by
          simp only [List.map_cons, List.map_nil, List.mem_cons, List.not_mem_nil, or_false] at hm
          obtain ⟨l1, l2, l3, l4, l5⟩ := h1
          rcases hm with e | e | e | e | e
          · exact Nat.ne_of_gt l1 e
          · exact Nat.ne_of_gt l2 e
          · exact Nat.ne_of_gt l3 e
          · exact Nat.ne_of_gt l4 e
          · exact Nat.ne_of_gt l5 e
        rw [(N' (D, od) (.head _)).2.2] at this
        cases this
    intro e2
    rw [e2, hD] at e
    cases e
/-- the rules of the project -/
def RA : List PySem.Str := [PySem.Str.ofString "input", PySem.Str.ofString "define", PySem.Str.ofString "ite_term", PySem.Str.ofString "three", PySem.Str.ofString "bits", PySem.Str.ofString "congruence", PySem.Str.ofString "farkas", PySem.Str.ofString "branch", PySem.Str.ofString "divide", PySem.Str.ofString "cut", PySem.Str.ofString "resolve"]
theorem rules_in {x : PySem.Str} (hx : x ∈ RL) : (RA.any (· == x)) = true := by
  simp only [RL, List.mem_cons, List.not_mem_nil, or_false] at hx
  rcases hx with rfl | rfl | rfl | rfl <;> decide +kernel
theorem m_rules {prog : Program} {w : World} {A : Around} {E : Value → Shared → Prop} {s : Shared} {h₀ : Heap} {L : Addr} {m : Str → Option Value} {Q : Value → Shared → Prop} {x : PySem.Str} {u : Tok} (hx : x ∈ RL) (F : Fr h₀ L s.heap m) (X : (Mine.hd.heap_39 w.params).In h₀) (h : Q (.bool false) s) :
    wpAny (model prog w) A (compareOp .NotIn (.str x u) (.ref 86)) Q E s := by
  have X' := X.keeps F.keep
  refine notin_tuple_strs (ys := RA) ⟨_, X' 86 _ (by exact rfl), rfl, _, rfl⟩ ?_ ?_
  · repeat constructor
  · rw [rules_in hx]
    exact h
section
local macro_rules | `(tactic| kct_strs) => `(tactic| first | omega | (simp only [List.size_toArray, List.length_append, List.length_cons, List.length_nil]; omega) | (rw [sizeLine_eq]; simp only [List.size_toArray, List.length_append, List.length_cons, List.length_nil]; omega))
local macro_rules | `(tactic| k_ne) => `(tactic| first | with_reducible assumption | (refine Ne.symm ?_; with_reducible assumption))
local macro_rules | `(tactic| walk_at "compareOp NotIn str ref") => wl "" "m_rules" "k1 k2 k3 _" "k1:s k2:a k3:a" "" 0
theorem mTidy {α : Type} {x y z a : α} {r : List α} : a ∈ x :: y :: z :: a :: r := .tail _ (.tail _ (.tail _ (.head _)))
local macro_rules | `(tactic| walk_at "call ref") => wl "call ( Value.ref 93 ) _" "tidy_spec" "kC kM kI kB kF kX kN kT kK kd ku _" "kB:a kF:a kX:a kN:a kT:a kK:e kM:mTidy/ kI:s kC:s kd:r ku:n" "h' tk' F' N'" 1
local macro_rules | `(tactic| walk_at "call builtin:len") => wl "call ( Value.builtin 'len ) [ ( Value.ref _ ) ]" "m_lenT" "k1 k2 k3 _" "k1:a k2:s|m k3:o" "" 0
local macro_rules | `(tactic| walk_at "call builtin:len") => wl "call ( Value.builtin 'len ) [ ( Value.ref _ ) ]" "m_len" "k1 k2 k3 _" "k1:a k2:m k3:o" "" 0
local macro_rules | `(tactic| walk_at "call type:tuple") => wl "call ( Value.type _ ) [ ( Value.ref _ ) ]" "call_tuple_tup" "k1 _" "k1:News.isTup/am" "" 0
set_option maxHeartbeats 8000000 in
theorem add_core {w : World} {mean : ExcName → Option Value} {mg mb : Str → Option Value}
    {dp un : Nat} {gd : Option (List Code)} {cn : Str} {cs : Scope} {a : Addr} {ccd : Value} {cl : List (Str × Addr)} {outer : List Env} {A₀ : Around} {base h₀ : Heap} {L : Addr} {m : Str → Option Value} {s : Shared}
    {Q E : Value → Shared → Prop} {news : List (Addr × Obj)} {px dx ls ln : Addr} {t1 t2 t3 te tw : Tok} {e : Int} {vs : List Value} {sn : Nat} {x : PySem.Str} {c p : Addr} {cvs pvs : List Value} {ns ks : List Int} {nv : Value} {cnn pn : Nat}
    (B : Below A₀ base outer h₀) (F : Fr h₀ L s.heap m) (X : (Mine.hd.heap_39 w.params).In h₀)
    (N : News h₀ L s.heap [(dx, (W.dictOf [{ hash := PyData.keyHash w.params (Str.ofString "steps"), key := .str (Str.ofString "steps") t1, val := .ref ls }, { hash := PyData.keyHash w.params (Str.ofString "named"), key := .str (Str.ofString "named") t2, val := .ref ln }, { hash := PyData.keyHash w.params (Str.ofString "empty"), key := .str (Str.ofString "empty") t3, val := .int e te }] 3)), (ls, W.listOf vs.toArray sn), (px, instObj 220 dx), (c, ({ cls := .type "tuple", data := .seq cvs.toArray cnn } : Obj)), (p, ({ cls := .type "tuple", data := .seq pvs.toArray pn } : Obj))]) (T : Top Mine.vw (looseW Mine.vw [Str.ofString "ROUND"]) mean mg mb h₀) (hk : cs.kind = .function)
    (hd1 : ls ≠ dx) (hd2 : px ≠ dx) (hd3 : px ≠ ls) (hd4 : c ≠ dx) (hd5 : c ≠ ls) (hd6 : p ≠ dx) (hd7 : p ≠ ls)
    (hx : x ∈ RL) (hcI : IntsAre cvs ns) (hcl : ns ∈ CL)
    (hpI : IntsAre pvs ks) (hks : ∀ k ∈ ks, 0 ≤ k ∧ k < (vs.length : Int)) (hpl : ks.length ≤ 1) (hvl : vs.length ≤ 10)
    (hd : dp + 3 < 1000) (hu : un + 64 < 9900)
    (hret : ∀ D t e' te' h' tk', Fr h₀ L h' m → News h₀ L h' [(dx, (W.dictOf [{ hash := PyData.keyHash w.params (Str.ofString "steps"), key := .str (Str.ofString "steps") t1, val := .ref ls }, { hash := PyData.keyHash w.params (Str.ofString "named"), key := .str (Str.ofString "named") t2, val := .ref ln }, { hash := PyData.keyHash w.params (Str.ofString "empty"), key := .str (Str.ofString "empty") t3, val := .int e' te' }] 3)), (ls, W.listOf (vs ++ [Value.ref D]).toArray (sn + 1)), (px, instObj 220 dx), (D, ({ cls := .type "tuple", data := .seq #[.str x tw, .ref c, .ref p, nv] } : Obj))] →
      (∀ b o, b ≠ dx → b ≠ ls → s.heap.get? b = some o → h'.get? b = some o ∧ b ≠ D) → (dx < D ∧ ls < D ∧ px < D ∧ c < D ∧ p < D) → Q (.int (vs.length : Int) t) { s with heap := h', toks := tk' }) :
    wpAny (model PySem.Challenge.rw_sj0098_01.row.prog w) (ktrTop dp un gd cn cs L a ccd cl outer) (call (.ref 156) [.ref px, .str x tw, .ref c, .ref p, nv]) Q E s := by
  have hcl9 := CL_len hcl
  have hcv9 := hcI.length
  cases hpI with
  | nil =>
    refine wpAny_call ?_
    w_strict (
      k_dflt kbo_bools
      k_steps
      all_goals exact hret _ _ _ _ _ _ (by k_asm) (add_news (by assumption)) (add_keep (by assumption) N (by k_asm) (by k_asm) (by assumption)) (by assumption))
  | cons k t r =>
    cases r with
    | cons _ _ _ => exact absurd hpl (by simp)
    | nil =>
      obtain ⟨hk0, hk1⟩ := hks k (.head _)
      refine wpAny_call ?_
      w_strict (
        k_dflt kbo_bools
        k_steps
        all_goals try (exfalso; omega)
        all_goals exact hret _ _ _ _ _ _ (by k_asm) (add_news (by assumption)) (add_keep (by assumption) N (by k_asm) (by k_asm) (by assumption)) (by assumption))
end
theorem add_spec {w : World} {mean : ExcName → Option Value} {mg mb : Str → Option Value}
    {dp un : Nat} {gd : Option (List Code)} {cn : Str} {cs : Scope} {a : Addr} {ccd : Value} {cl : List (Str × Addr)} {outer : List Env} {A₀ : Around} {base h₀ : Heap} {L : Addr} {m : Str → Option Value} {s : Shared}
    {Q E : Value → Shared → Prop} {news : List (Addr × Obj)} {px dx ls ln : Addr} {t1 t2 t3 te tw : Tok} {e : Int} {vs : List Value} {sn : Nat} {x : PySem.Str} {c p : Addr} {cvs pvs : List Value} {ns ks : List Int} {nv : Value} {cnn pn : Nat}
    (B : Below A₀ base outer h₀) (F : Fr h₀ L s.heap m) (X : (Mine.hd.heap_39 w.params).In h₀)
    (N : News h₀ L s.heap ((dx, (W.dictOf [{ hash := PyData.keyHash w.params (Str.ofString "steps"), key := .str (Str.ofString "steps") t1, val := .ref ls }, { hash := PyData.keyHash w.params (Str.ofString "named"), key := .str (Str.ofString "named") t2, val := .ref ln }, { hash := PyData.keyHash w.params (Str.ofString "empty"), key := .str (Str.ofString "empty") t3, val := .int e te }] 3)) :: (ls, W.listOf vs.toArray sn) :: (px, instObj 220 dx) :: news)) (T : Top Mine.vw (looseW Mine.vw [Str.ofString "ROUND"]) mean mg mb h₀) (hk : cs.kind = .function)
    (hd1 : ls ≠ dx) (hd2 : px ≠ dx) (hd3 : px ≠ ls) (hdx : ∀ p ∈ news, p.1 ≠ dx) (hls : ∀ p ∈ news, p.1 ≠ ls)
    (hx : x ∈ RL) (hc : (c, ({ cls := .type "tuple", data := .seq cvs.toArray cnn } : Obj)) ∈ news) (hcI : IntsAre cvs ns) (hcl : ns ∈ CL)
    (hp : (p, ({ cls := .type "tuple", data := .seq pvs.toArray pn } : Obj)) ∈ news) (hpI : IntsAre pvs ks) (hks : ∀ k ∈ ks, 0 ≤ k ∧ k < (vs.length : Int)) (hpl : ks.length ≤ 1) (hvl : vs.length ≤ 10)
    (hd : dp + 3 < 1000) (hu : un + 64 < 9900)
    (hret : ∀ D t e' te' h' tk', Fr h₀ L h' m → News h₀ L h' ((dx, (W.dictOf [{ hash := PyData.keyHash w.params (Str.ofString "steps"), key := .str (Str.ofString "steps") t1, val := .ref ls }, { hash := PyData.keyHash w.params (Str.ofString "named"), key := .str (Str.ofString "named") t2, val := .ref ln }, { hash := PyData.keyHash w.params (Str.ofString "empty"), key := .str (Str.ofString "empty") t3, val := .int e' te' }] 3)) :: (ls, W.listOf (vs ++ [Value.ref D]).toArray (sn + 1)) :: (px, instObj 220 dx) :: (D, ({ cls := .type "tuple", data := .seq #[.str x tw, .ref c, .ref p, nv] } : Obj)) :: news) →
      dx ≠ D → ls ≠ D → px ≠ D → (∀ p ∈ news, p.1 ≠ D) → Q (.int (vs.length : Int) t) { s with heap := h', toks := tk' }) :
    wpAny (model PySem.Challenge.rw_sj0098_01.row.prog w) (ktrTop dp un gd cn cs L a ccd cl outer) (call (.ref 156) [.ref px, .str x tw, .ref c, .ref p, nv]) Q E s := by
  have hpx := N _ (.tail _ (.tail _ (.head _)))
  have hn : ∀ q ∈ news, q ∈ (dx, (W.dictOf [{ hash := PyData.keyHash w.params (Str.ofString "steps"), key := .str (Str.ofString "steps") t1, val := .ref ls }, { hash := PyData.keyHash w.params (Str.ofString "named"), key := .str (Str.ofString "named") t2, val := .ref ln }, { hash := PyData.keyHash w.params (Str.ofString "empty"), key := .str (Str.ofString "empty") t3, val := .int e te }] 3)) :: (ls, W.listOf vs.toArray sn) :: (px, instObj 220 dx) :: news := fun q hq => .tail _ (.tail _ (.tail _ hq))
  have N5 : News h₀ L s.heap [(dx, (W.dictOf [{ hash := PyData.keyHash w.params (Str.ofString "steps"), key := .str (Str.ofString "steps") t1, val := .ref ls }, { hash := PyData.keyHash w.params (Str.ofString "named"), key := .str (Str.ofString "named") t2, val := .ref ln }, { hash := PyData.keyHash w.params (Str.ofString "empty"), key := .str (Str.ofString "empty") t3, val := .int e te }] 3)), (ls, W.listOf vs.toArray sn), (px, instObj 220 dx), (c, ({ cls := .type "tuple", data := .seq cvs.toArray cnn } : Obj)), (p, ({ cls := .type "tuple", data := .seq pvs.toArray pn } : Obj))] := by
    intro q hq
    simp only [List.mem_cons, List.not_mem_nil, or_false] at hq
    rcases hq with e | e | e | e | e
    · rw [e]; exact N _ (.head _)
    · rw [e]; exact N _ (.tail _ (.head _))
    · rw [e]; exact hpx
    · rw [e]; exact N _ (hn _ hc)
    · rw [e]; exact N _ (hn _ hp)
  refine add_core (news := news) B F X N5 T hk hd1 hd2 hd3 (hdx _ hc) (hls _ hc) (hdx _ hp) (hls _ hp) hx hcI hcl hpI hks hpl hvl hd hu fun D t e' te' h' tk' F' N' K l => hret D t e' te' h' tk' F' ?_ (Nat.ne_of_lt l.1) (Nat.ne_of_lt l.2.1) (Nat.ne_of_lt l.2.2.1) fun q hq => (K q.1 q.2 (hdx q hq) (hls q hq) (N q (hn q hq)).1).2
  · intro q hq
    rcases List.mem_cons.mp hq with e | hq
    · rw [e]; exact N' _ (.head _)
    · rcases List.mem_cons.mp hq with e | hq
      · rw [e]; exact N' _ (.tail _ (.head _))
      · rcases List.mem_cons.mp hq with e | hq
        · rw [e]; exact N' _ (.tail _ (.tail _ (.head _)))
        · rcases List.mem_cons.mp hq with e | hq
          · rw [e]; exact N' _ (.tail _ (.tail _ (.tail _ (.head _))))
          · exact ⟨(K q.1 q.2 (hdx q hq) (hls q hq) (N q (hn q hq)).1).1, (N q (hn q hq)).2⟩

end
theorem fresh_PTx : True := by first | row_walk | trivial
local macro_rules | `(tactic| walk_at "none PTx 0") => `(tactic| fail)
local macro_rules | `(tactic| walk_at "none PTx 1") => `(tactic| fail)
local macro_rules | `(tactic| walk_at "none PTx 2") => `(tactic| fail)
local macro_rules | `(tactic| walk_at "none PTx 3") => `(tactic| fail)
local macro_rules | `(tactic| walk_at "none PTx 4") => `(tactic| fail)
local macro_rules | `(tactic| walk_at "none PTx 5") => `(tactic| fail)
local macro_rules | `(tactic| walk_at "none PTx 6") => `(tactic| fail)
local macro_rules | `(tactic| walk_at "none PTx 7") => `(tactic| fail)
local macro_rules | `(tactic| walk_at "none PTx 8") => `(tactic| fail)
section
-- needs: Add
/-- a step of the proof -/
structure StD where
  x : PySem.Str
  cl : List Int
  pr : List Int
  nt : Dat
structure StOk (d : StD) : Prop where
  rule : d.x ∈ RL
  clause : d.cl ∈ CL
  prem : d.pr.length ≤ 1 ∧ ∀ k ∈ d.pr, 0 ≤ k ∧ k < 10
  note : NoteOk 51 d.nt
  short : (noteTx d.nt).length ≤ 60000
def StIn (news : List (Addr × Obj)) (v : Value) (d : StD) : Prop :=
  ∃ (a c p : Addr) (t : Tok) (nv : Value) (n2 n3 : Nat) (cvs pvs : List Value), v = .ref a ∧ (a, ({ cls := .type "tuple", data := .seq #[.str d.x t, .ref c, .ref p, nv] } : Obj)) ∈ news ∧
    (c, ({ cls := .type "tuple", data := .seq cvs.toArray n2 } : Obj)) ∈ news ∧ IntsAre cvs d.cl ∧ (p, ({ cls := .type "tuple", data := .seq pvs.toArray n3 } : Obj)) ∈ news ∧ IntsAre pvs d.pr ∧ DatIn news nv d.nt
def rowOf (k : Nat) (d : StD) : List Nat :=
  [115, 116, 101, 112, 32] ++ (digs k ++ ([32] ++ (d.x.cps.toList ++ ([32, 124, 32] ++ (rowTx d.cl ++ ([32, 124, 32] ++ (rowTx d.pr ++ ([32, 124, 32] ++ noteTx d.nt))))))))
theorem StIn.mono {news news' : List (Addr × Obj)} (hs : ∀ p ∈ news, p ∈ news') {v : Value} {d : StD} (h : StIn news v d) : StIn news' v d := by
  obtain ⟨a, c, p, t, nv, n2, n3, cvs, pvs, e, h1, h2, h3, h4, h5, h6⟩ := h
  exact ⟨a, c, p, t, nv, n2, n3, cvs, pvs, e, hs _ h1, hs _ h2, h3, hs _ h4, h5, h6.mono hs⟩
theorem paired_at {α : Type} {R : Value → α → Prop} {vs : List Value} {ds : List α} (h : Paired R vs ds) {i : Nat} {v : Value} (hv : vs[i]? = some v) : ∃ d, ds[i]? = some d ∧ R v d := by
  induction h generalizing i with
  | nil => cases hv
  | cons hF _ ih =>
    cases i with
    | zero => cases hv; exact ⟨_, rfl, hF⟩
    | succ i => exact ih hv
theorem paired_len {α : Type} {R : Value → α → Prop} {vs : List Value} {ds : List α} (h : Paired R vs ds) : vs.length = ds.length := by
  induction h with
  | nil => rfl
  | cons _ _ ih => rw [List.length_cons, List.length_cons, ih]
section
variable {prog : Program} {w : World} {A : Around} {E : Value → Shared → Prop} {s : Shared} {h₀ : Heap} {L ls : Addr} {news nx : List (Addr × Obj)} {vs : List Value} {sn : Nat}
theorem m_stepAt {value slice : PySem.Expr} {sts : List StD} {k : Int} {u : Tok} {Q : Value → Shared → Prop} (N : News h₀ L s.heap nx) (hm : (ls, W.listOf vs.toArray sn) ∈ nx) (hP : Paired (StIn news) vs sts)
    (h0 : 0 ≤ k) (h1 : k < (vs.length : Int)) (hfit : k < 2 ^ 63) (h : ∀ a d, sts[k.toNat]? = some d → StIn news (.ref a) d → Q (.ref a) s)
    (hs : subscripted slice false (.ref ls) (.int k u) = operate [.ref ls, .int k u] (getItem (.ref ls) (.int k u)) := by with_unfolding_all rfl) :
    wpAny (model prog w) A (subscriptTail value slice (.ref ls) (.int k u)) Q E s := by
  have hl := News.isList N hm
  have hk : k.toNat < vs.length := by omega
  obtain ⟨d, hd, hst⟩ := paired_at hP (List.getElem?_eq_getElem hk)
  obtain ⟨a, c, p, t, nv, n2, n3, cvs, pvs, e, hr⟩ := id hst
  exact tail_any hl.typeIs slot_list_getitem.lookup (wpAny_getItem_list hl h0 hfit (x := vs[k.toNat]) (by simp [hk]) (e ▸ h a d hd (e ▸ hst))) hs
end
section
local macro_rules | `(tactic| walk_at "call builtin:len") => wl "call ( Value.builtin 'len ) [ ( Value.ref _ ) ]" "m_len" "k1 k2 k3 _" "k1:a k2:m k3:o" "" 0
set_option maxHeartbeats 8000000 in
theorem vc_spec {w : World} {mean : ExcName → Option Value} {mg mb : Str → Option Value}
    {dp un : Nat} {gd : Option (List Code)} {cn : Str} {cs : Scope} {a : Addr} {ccd : Value} {cl : List (Str × Addr)} {outer : List Env} {A₀ : Around} {base h₀ : Heap} {L : Addr} {m : Str → Option Value} {s : Shared}
    {Q E : Value → Shared → Prop} {news : List (Addr × Obj)} {px dx ls ln : Addr} {t1 t2 t3 te tn : Tok} {e : Int}
    (hpx : (px, instObj 220 dx) ∈ news) (hdx : (dx, (W.dictOf [{ hash := PyData.keyHash w.params (Str.ofString "steps"), key := .str (Str.ofString "steps") t1, val := .ref ls }, { hash := PyData.keyHash w.params (Str.ofString "named"), key := .str (Str.ofString "named") t2, val := .ref ln }, { hash := PyData.keyHash w.params (Str.ofString "empty"), key := .str (Str.ofString "empty") t3, val := .int e te }] 3)) ∈ news) (hln : (ln, W.listOf #[Value.int 0 tn] 0) ∈ news)
    (B : Below A₀ base outer h₀) (F : Fr h₀ L s.heap m) (X : (Mine.hd.heap_39 w.params).In h₀) (N : News h₀ L s.heap news) (T : Top Mine.vw (looseW Mine.vw [Str.ofString "ROUND"]) mean mg mb h₀) (hk : cs.kind = .function)
    (hd : dp + 2 < 1000) (hu : un + 16 < 9900)
    (hret : ∀ t h' tk', Fr h₀ L h' m → News h₀ L h' news → Q (.int 0 t) { s with heap := h', toks := tk' }) :
    wpAny (model PySem.Challenge.rw_sj0098_01.row.prog w) (ktrTop dp un gd cn cs L a ccd cl outer) (call (.ref 128) [.ref px]) Q E s := by
  have N5 : News h₀ L s.heap [(px, instObj 220 dx), (dx, (W.dictOf [{ hash := PyData.keyHash w.params (Str.ofString "steps"), key := .str (Str.ofString "steps") t1, val := .ref ls }, { hash := PyData.keyHash w.params (Str.ofString "named"), key := .str (Str.ofString "named") t2, val := .ref ln }, { hash := PyData.keyHash w.params (Str.ofString "empty"), key := .str (Str.ofString "empty") t3, val := .int e te }] 3)), (ln, W.listOf #[Value.int 0 tn] 0)] := by
    intro q hq
    simp only [List.mem_cons, List.not_mem_nil, or_false] at hq
    rcases hq with e | e | e
    · rw [e]; exact N _ hpx
    · rw [e]; exact N _ hdx
    · rw [e]; exact N _ hln
  have K9 : ∀ h', KeepH s.heap h' → News h₀ L h' news := fun h' K => N.grown K
  clear N
  refine wpAny_call ?_
  w_strict (
    k_dflt kbo_bools
    kbt_split
    exact hret _ _ _ (by k_asm) (K9 _ (keep_of (by assumption) N5 (by k_asm) (by k_asm) fun _ h => h)))
set_option maxHeartbeats 8000000 in
theorem size_spec {w : World} {mean : ExcName → Option Value} {mg mb : Str → Option Value}
    {dp un : Nat} {gd : Option (List Code)} {cn : Str} {cs : Scope} {a : Addr} {ccd : Value} {cl : List (Str × Addr)} {outer : List Env} {A₀ : Around} {base h₀ : Heap} {L : Addr} {m : Str → Option Value} {s : Shared}
    {Q E : Value → Shared → Prop} {news : List (Addr × Obj)} {px dx ls ln : Addr} {t1 t2 t3 te : Tok} {e : Int} {vs : List Value} {sn : Nat} (hvl : vs.length ≤ 10)
    (hpx : (px, instObj 220 dx) ∈ news) (hdx : (dx, (W.dictOf [{ hash := PyData.keyHash w.params (Str.ofString "steps"), key := .str (Str.ofString "steps") t1, val := .ref ls }, { hash := PyData.keyHash w.params (Str.ofString "named"), key := .str (Str.ofString "named") t2, val := .ref ln }, { hash := PyData.keyHash w.params (Str.ofString "empty"), key := .str (Str.ofString "empty") t3, val := .int e te }] 3)) ∈ news) (hls : (ls, W.listOf vs.toArray sn) ∈ news)
    (B : Below A₀ base outer h₀) (F : Fr h₀ L s.heap m) (X : (Mine.hd.heap_39 w.params).In h₀) (N : News h₀ L s.heap news) (T : Top Mine.vw (looseW Mine.vw [Str.ofString "ROUND"]) mean mg mb h₀) (hk : cs.kind = .function)
    (hd : dp + 2 < 1000) (hu : un + 16 < 9900)
    (hret : ∀ t h' tk', Fr h₀ L h' m → News h₀ L h' news → Q (.int (vs.length : Int) t) { s with heap := h', toks := tk' }) :
    wpAny (model PySem.Challenge.rw_sj0098_01.row.prog w) (ktrTop dp un gd cn cs L a ccd cl outer) (call (.ref 135) [.ref px]) Q E s := by
  have N5 : News h₀ L s.heap [(px, instObj 220 dx), (dx, (W.dictOf [{ hash := PyData.keyHash w.params (Str.ofString "steps"), key := .str (Str.ofString "steps") t1, val := .ref ls }, { hash := PyData.keyHash w.params (Str.ofString "named"), key := .str (Str.ofString "named") t2, val := .ref ln }, { hash := PyData.keyHash w.params (Str.ofString "empty"), key := .str (Str.ofString "empty") t3, val := .int e te }] 3)), (ls, W.listOf vs.toArray sn)] := by
    intro q hq
    simp only [List.mem_cons, List.not_mem_nil, or_false] at hq
    rcases hq with e | e | e
    · rw [e]; exact N _ hpx
    · rw [e]; exact N _ hdx
    · rw [e]; exact N _ hls
  have K9 : ∀ h', KeepH s.heap h' → News h₀ L h' news := fun h' K => N.grown K
  clear N
  refine wpAny_call ?_
  w_strict (
    k_dflt kbo_bools
    kbt_split
    exact hret _ _ _ (by k_asm) (K9 _ (keep_of (by assumption) N5 (by k_asm) (by k_asm) fun _ h => h)))
end
theorem cl_nine {ns : List Int} (h : ns ∈ CL) : ∀ i ∈ ns, -9 ≤ i ∧ i ≤ 9 := by
  have H : ∀ l ∈ CL, ∀ i ∈ l, -9 ≤ i ∧ i ≤ 9 := by decide
  exact H ns h
theorem pr_nine {ns : List Int} (h : ∀ k ∈ ns, 0 ≤ k ∧ k < 10) : ∀ i ∈ ns, -9 ≤ i ∧ i ≤ 9 := fun i hi => by
  have := h i hi
  omega
theorem rule_len {x : PySem.Str} (h : x ∈ RL) : x.length ≤ 100 := by
  have H : ∀ y ∈ RL, y.length ≤ 100 := by decide
  exact H x h
theorem row_short' {ns : List Int} (hs : ∀ i ∈ ns, -9 ≤ i ∧ i ≤ 9) (hc : ns.length ≤ 60) : (rowTx ns).length ≤ 1000 := by
  unfold rowTx
  split
  · decide
  · exact row_short hs hc
theorem key_short {k : Int} (h0 : -9 ≤ k) (h1 : k ≤ 9) : (PySem.Str.ofString (toString k)).length ≤ 2 := by
  rw [intTx_of h0 h1, tx_length]
  exact intTx_short h0 h1
theorem digs_nine {k : Nat} (h : k ≤ 9) : (digs k).length ≤ 2 := by
  have := intTx_short (i := (k : Int)) (by omega) (by omega)
  unfold intTx at this
  rw [if_neg (by omega)] at this
  simpa using this
theorem row_len {k : Nat} {d : StD} (hk : k ≤ 9) (ok : StOk d) (h2 : (rowTx d.cl).length ≤ 1000) (h3 : (rowTx d.pr).length ≤ 1000) : (rowOf k d).length ≤ 70000 := by
  have h1 := digs_nine hk
  have h4 := ok.short
  have h5 : d.x.cps.toList.length ≤ 100 := by
    have := rule_len ok.rule
    rwa [← tx_eta d.x, tx_length] at this
  unfold rowOf
  simp only [List.length_append, List.length_cons, List.length_nil]
  omega
theorem row_eq {k : Int} {i : Nat} {d : StD} (hk : k = (i : Int)) (hi : i ≤ 9) :
    PySem.Str.empty ++ PySem.Str.ofString "step " ++ PySem.Str.ofString (toString k) ++ PySem.Str.ofString " " ++ d.x ++ PySem.Str.ofString " | " ++ tx (rowTx d.cl) ++ PySem.Str.ofString " | " ++ tx (rowTx d.pr) ++ PySem.Str.ofString " | " ++ tx (noteTx d.nt) = tx (rowOf i d) := by
  subst hk
  rw [digs_of_int]
  have e0 : PySem.Str.empty = tx [] := by decide
  have e1 : PySem.Str.ofString "step " = tx [115, 116, 101, 112, 32] := by decide
  have e2 : PySem.Str.ofString " " = tx [32] := by decide
  have e3 : PySem.Str.ofString " | " = tx [32, 124, 32] := by decide
  have e4 : d.x = tx d.x.cps.toList := (tx_eta d.x).symm
  rw [e0, e1, e2, e3]
  conv => lhs; rw [e4]
  simp only [tx_append]
  unfold rowOf
  simp only [List.nil_append, List.append_assoc]
theorem row_eq2 {k : Int} {i : Nat} {d : StD} (hk : k = (i : Int)) (hi : i ≤ 9) :
    PySem.Str.ofString "step " ++ PySem.Str.ofString (toString k) ++ PySem.Str.ofString " " ++ d.x ++ PySem.Str.ofString " | " ++ tx (rowTx d.cl) ++ PySem.Str.ofString " | " ++ tx (rowTx d.pr) ++ PySem.Str.ofString " | " ++ tx (noteTx d.nt) = tx (rowOf i d) := by
  rw [← row_eq hk hi]
  rw [show PySem.Str.empty ++ PySem.Str.ofString "step " = PySem.Str.ofString "step " by decide]
/-- the rows that are written -/
def rowsOf (sts : List StD) : List (List Nat) := List.zipWith rowOf (List.range sts.length) sts
theorem rows_len (sts : List StD) : (rowsOf sts).length = sts.length := by simp [rowsOf]
theorem rows_at {sts : List StD} {i : Nat} {d : StD} (h : sts[i]? = some d) : (rowsOf sts)[i]? = some (rowOf i d) := by
  have hi : i < sts.length := (List.getElem?_eq_some_iff.mp h).1
  unfold rowsOf
  rw [List.getElem?_zipWith, h, List.getElem?_range hi]
theorem rows_take {sts : List StD} {i : Nat} {d : StD} {css : List (List Nat)} (hc : css = (rowsOf sts).take i) (h : sts[i]? = some d) : css ++ [rowOf i d] = (rowsOf sts).take (i + 1) := by
  rw [List.take_succ, rows_at h, hc]
  rfl
theorem rows_each {sts : List StD} (hok : ∀ d ∈ sts, StOk d) (hl : sts.length ≤ 9) : ∀ r ∈ rowsOf sts, r.length ≤ 70000 := by
  intro r hr
  obtain ⟨i, hi, e⟩ := List.getElem_of_mem hr
  rw [rows_len] at hi
  have h1 : sts[i]? = some sts[i] := List.getElem?_eq_getElem hi
  have h2 := rows_at h1
  rw [List.getElem?_eq_getElem (by rw [rows_len]; exact hi)] at h2
  have h3 := Option.some.inj h2
  rw [← e, h3]
  have ok := hok _ (List.getElem_mem hi)
  exact row_len (by omega) ok (row_short' (cl_nine ok.clause) (Nat.le_trans (CL_len ok.clause) (by decide))) (row_short' (pr_nine ok.prem.2) (Nat.le_trans ok.prem.1 (by decide)))
theorem sum_le {l : List (List Nat)} (h : ∀ r ∈ l, r.length ≤ 70000) : (l.map List.length).sum ≤ 70000 * l.length := by
  induction l with
  | nil => exact Nat.le_refl _
  | cons a r ih =>
    have h1 := h a (.head _)
    have h2 := ih fun q hq => h q (.tail _ hq)
    simp only [List.map_cons, List.sum_cons, List.length_cons]
    omega
theorem rows_sum {sts : List StD} (hok : ∀ d ∈ sts, StOk d) (hl : sts.length ≤ 5) : ((rowsOf sts).map List.length).sum ≤ 350000 := by
  have h1 := sum_le (rows_each hok (by omega))
  rw [rows_len] at h1
  omega
theorem name_head {h₀ h : Heap} {L a : Addr} {o : Obj} {r : List (Addr × Obj)} (_ : News h₀ L h ((a, o) :: r)) : ∃ a', a' = a ∧ True := ⟨a, rfl, trivial⟩
section
local macro_rules | `(tactic| kct_strs) => `(tactic| first | omega | (rw [sizeLine_eq]; omega) | (rw [tx_length, sizeLine_eq]; omega) | (rw [sizeLine_eq]; simp only [List.size_toArray]; omega) | (simp only [List.length_append, List.length_cons, List.length_nil, List.length_map]; omega))
local macro_rules | `(tactic| walk_at "call ref") => wl "call ( Value.ref 128 ) _" "vc_spec" "kP kD kL kB kF kX kN kT kK kd ku _" "kB:a kF:a kX:a kN:a kT:a kK:e kP:m kD:m kL:m kd:r ku:n" "t' h' tk' F' N'" 1
local macro_rules | `(tactic| walk_at "call ref") => wl "call ( Value.ref 135 ) _" "size_spec" "kZ kP kD kL kB kF kX kN kT kK kd ku _" "kB:a kF:a kX:a kN:a kT:a kK:e kP:m kD:m kL:m kZ:o kd:r ku:n" "t' h' tk' F' N'" 1
local macro_rules | `(tactic| walk_at "call type:range") => wr "call _ [ _ ]" "range1_rows"
local macro_rules | `(tactic| walk_at "call type:range") => wr "call _ [ _ _ ]" "range2_rows"
local macro_rules | `(tactic| walk_at "subscriptTail") => wl "subscriptTail _ _ ( Value.ref _ ) ( Value.int _ _ )" "m_stepAt" "k1 k2 k3 k4 k5 k6 _ k7" "k1:a k2:m k3:s k4:o k5:o k6:o k7:u" "a' d' hd' hst'" 0
local macro_rules | `(tactic| walk_at "call ref") => wl "call ( Value.ref 232 ) _" "row_spec" "kS kC kM kI kB kF kX kN kT kK kd ku _" "kB:a kF:a kX:a kN:a kT:a kK:e kM:s kI:s kS:s kC:s kd:r ku:n" "t' h' tk' F' N' K'" 1
local macro_rules | `(tactic| tb_rel) => `(tactic| assumption)
local macro_rules | `(tactic| size_fits) => `(tactic| (simp only [strLen_append, tx_length, sizeLine_eq]; omega))
local macro_rules | `(tactic| walk_at "formatField str") => wl "formatField ( Value.str _ _ ) _" "SB.field_str" "_ z" "z:c" "t' k'" 0
set_option maxHeartbeats 8000000 in
theorem pt_spec {w : World} {mean : ExcName → Option Value} {mg mb : Str → Option Value}
    {dp un : Nat} {gd : Option (List Code)} {cn : Str} {cs : Scope} {a : Addr} {ccd : Value} {cl : List (Str × Addr)} {outer : List Env} {A₀ : Around} {base h₀ : Heap} {L : Addr} {m : Str → Option Value} {s : Shared}
    {Q E : Value → Shared → Prop} {news : List (Addr × Obj)} {px dx ls ln : Addr} {t1 t2 t3 te tn : Tok} {e : Int} {vs : List Value} {sn : Nat} {sts : List StD}
    (B : Below A₀ base outer h₀) (F : Fr h₀ L s.heap m) (X : (Mine.hd.heap_39 w.params).In h₀)
    (N : News h₀ L s.heap ((px, instObj 220 dx) :: (dx, (W.dictOf [{ hash := PyData.keyHash w.params (Str.ofString "steps"), key := .str (Str.ofString "steps") t1, val := .ref ls }, { hash := PyData.keyHash w.params (Str.ofString "named"), key := .str (Str.ofString "named") t2, val := .ref ln }, { hash := PyData.keyHash w.params (Str.ofString "empty"), key := .str (Str.ofString "empty") t3, val := .int e te }] 3)) :: (ls, W.listOf vs.toArray sn) :: (ln, W.listOf #[Value.int 0 tn] 0) :: news)) (T : Top Mine.vw (looseW Mine.vw [Str.ofString "ROUND"]) mean mg mb h₀) (hk : cs.kind = .function)
    (hP : Paired (StIn news) vs sts) (hok : ∀ d ∈ sts, StOk d) (hvl : vs.length ≤ 5)
    (hd : dp + 60 < 1000) (hu : un + 1000 < 9900)
    (hret : ∀ t h' tk', Fr h₀ L h' m → News h₀ L h' ((px, instObj 220 dx) :: (dx, (W.dictOf [{ hash := PyData.keyHash w.params (Str.ofString "steps"), key := .str (Str.ofString "steps") t1, val := .ref ls }, { hash := PyData.keyHash w.params (Str.ofString "named"), key := .str (Str.ofString "named") t2, val := .ref ln }, { hash := PyData.keyHash w.params (Str.ofString "empty"), key := .str (Str.ofString "empty") t3, val := .int e te }] 3)) :: (ls, W.listOf vs.toArray sn) :: (ln, W.listOf #[Value.int 0 tn] 0) :: news) →
      Q (.str (tx (joinL [10] (rowsOf sts))) t) { s with heap := h', toks := tk' }) :
    wpAny (model PySem.Challenge.rw_sj0098_01.row.prog w) (ktrTop dp un gd cn cs L a ccd cl outer) (call (.ref 239) [.none, .ref px]) Q E s := by
  refine wpAny_call ?_
  w_strict (
    k_dflt ktr_enter
    kbt_split
    (rename Fr _ _ _ _ => F9)
    (with_unfolding_all refine' For_invVF F9 ?ka1 ?kb1 ?_; (case ka1 => exact rfl); (case kb1 => exact rfl); k_whole)
    kbt_split
    (rename IsRange _ _ _ _ _ _ _ _ => hR)
    (rename Fr _ _ _ _ => F9)
    (rename News _ _ _ _ => N9)
    refine' m_rangeS (n := 0) (σ := Unit) (fun _ => (_, W.listOf #[] 0) :: (px, instObj 220 dx) :: (dx, (W.dictOf [{ hash := PyData.keyHash w.params (Str.ofString "steps"), key := .str (Str.ofString "steps") t1, val := .ref ls }, { hash := PyData.keyHash w.params (Str.ofString "named"), key := .str (Str.ofString "named") t2, val := .ref ln }, { hash := PyData.keyHash w.params (Str.ofString "empty"), key := .str (Str.ofString "empty") t3, val := .int e te }] 3)) :: (ls, W.listOf vs.toArray sn) :: (ln, W.listOf #[Value.int 0 tn] 0) :: news) (fun _ => []) [Str.ofString "term"] (fun _ _ => True) () rfl hR (small_one (by omega) (by omega) (by omega) (by omega)) (by rw [rangeSize_nat]; omega) F9 N9 (fun _ h => h) (fun _ h => nomatch h) trivial ?_ ?_
    · intro i k t d u h tk own hi
      exact absurd hi (Nat.not_lt_zero _)
    · intro d u h tk hP1 F1 N1
      dsimp only [kstB] at F1
      clear F9 N9 hR
      kbt_split
      (rename Fr _ _ _ _ => F9)
      (with_unfolding_all refine' For_invVF F9 ?ka2 ?kb2 ?_; (case ka2 => exact rfl); (case kb2 => exact rfl); k_whole)
      kbt_split
      (rename IsRange _ _ _ _ _ _ _ _ => hR)
      (rename Fr _ _ _ _ => F9)
      (rename News _ _ _ _ => N9)
      obtain ⟨rw9, e9, _⟩ := name_head N9
      subst e9
      (rename px < rw9 ∧ _ => l9)
      have l8 := allLt_mem (l := (px, instObj 220 dx) :: (dx, (W.dictOf [{ hash := PyData.keyHash w.params (Str.ofString "steps"), key := .str (Str.ofString "steps") t1, val := .ref ls }, { hash := PyData.keyHash w.params (Str.ofString "named"), key := .str (Str.ofString "named") t2, val := .ref ln }, { hash := PyData.keyHash w.params (Str.ofString "empty"), key := .str (Str.ofString "empty") t3, val := .int e te }] 3)) :: (ls, W.listOf vs.toArray sn) :: (ln, W.listOf #[Value.int 0 tn] 0) :: news) l9
      refine' m_rangeS (σ := List Value × List (List Nat) × Nat) (fun c => (rw9, W.listOf c.1.toArray c.2.2) :: (px, instObj 220 dx) :: (dx, (W.dictOf [{ hash := PyData.keyHash w.params (Str.ofString "steps"), key := .str (Str.ofString "steps") t1, val := .ref ls }, { hash := PyData.keyHash w.params (Str.ofString "named"), key := .str (Str.ofString "named") t2, val := .ref ln }, { hash := PyData.keyHash w.params (Str.ofString "empty"), key := .str (Str.ofString "empty") t3, val := .int e te }] 3)) :: (ls, W.listOf vs.toArray sn) :: (ln, W.listOf #[Value.int 0 tn] 0) :: news) (fun _ => []) [Str.ofString "rule", Str.ofString "clause", Str.ofString "premises", Str.ofString "note"] (fun i c => TxAll c.1 c.2.1 ∧ c.2.1 = (rowsOf sts).take i) ([], [], 0) rfl hR (small_one (by omega) (by omega) (by omega) (by omega)) (rangeSize_nat _ _) F9 N9 (fun _ h => h) (fun _ h => nomatch h) ⟨TxAll.nil, rfl⟩ ?_ ?_
      · intro i k t c u h tk own hi hki hoff hP2 F1 N1
        obtain ⟨rvs, css, rn⟩ := c
        obtain ⟨hT, hcs⟩ := hP2
        dsimp only at hT hcs hoff N1
        dsimp only [kstB] at F1
        clear F9 N9 hR
        have N2 : News _ _ _ ((rw9, W.listOf rvs.toArray rn) :: (px, instObj 220 dx) :: (dx, (W.dictOf [{ hash := PyData.keyHash w.params (Str.ofString "steps"), key := .str (Str.ofString "steps") t1, val := .ref ls }, { hash := PyData.keyHash w.params (Str.ofString "named"), key := .str (Str.ofString "named") t2, val := .ref ln }, { hash := PyData.keyHash w.params (Str.ofString "empty"), key := .str (Str.ofString "empty") t3, val := .int e te }] 3)) :: (ls, W.listOf vs.toArray sn) :: (ln, W.listOf #[Value.int 0 tn] 0) :: (news ++ own)) := N1
        clear N1
        have hne9 : ∀ p ∈ (px, instObj 220 dx) :: (dx, (W.dictOf [{ hash := PyData.keyHash w.params (Str.ofString "steps"), key := .str (Str.ofString "steps") t1, val := .ref ls }, { hash := PyData.keyHash w.params (Str.ofString "named"), key := .str (Str.ofString "named") t2, val := .ref ln }, { hash := PyData.keyHash w.params (Str.ofString "empty"), key := .str (Str.ofString "empty") t3, val := .int e te }] 3)) :: (ls, W.listOf vs.toArray sn) :: (ln, W.listOf #[Value.int 0 tn] 0) :: (news ++ own), p.1 ≠ rw9 := by
          intro p hp
          rcases List.mem_append.mp (show p ∈ ((px, instObj 220 dx) :: (dx, (W.dictOf [{ hash := PyData.keyHash w.params (Str.ofString "steps"), key := .str (Str.ofString "steps") t1, val := .ref ls }, { hash := PyData.keyHash w.params (Str.ofString "named"), key := .str (Str.ofString "named") t2, val := .ref ln }, { hash := PyData.keyHash w.params (Str.ofString "empty"), key := .str (Str.ofString "empty") t3, val := .int e te }] 3)) :: (ls, W.listOf vs.toArray sn) :: (ln, W.listOf #[Value.int 0 tn] 0) :: news) ++ own from hp) with hp | hp
          · exact Nat.ne_of_lt (l8 p hp)
          · exact hoff p hp rw9 (.head _)
        have hsub : ∀ q ∈ news, q ∈ (rw9, W.listOf rvs.toArray rn) :: (px, instObj 220 dx) :: (dx, (W.dictOf [{ hash := PyData.keyHash w.params (Str.ofString "steps"), key := .str (Str.ofString "steps") t1, val := .ref ls }, { hash := PyData.keyHash w.params (Str.ofString "named"), key := .str (Str.ofString "named") t2, val := .ref ln }, { hash := PyData.keyHash w.params (Str.ofString "empty"), key := .str (Str.ofString "empty") t3, val := .int e te }] 3)) :: (ls, W.listOf vs.toArray sn) :: (ln, W.listOf #[Value.int 0 tn] 0) :: (news ++ own) := fun q hq => .tail _ (.tail _ (.tail _ (.tail _ (.tail _ (List.mem_append_left _ hq)))))
        kbt_split
        (rename StIn _ _ _ => hst)
        (rename sts[(_ : Nat)]? = some _ => hd9)
        obtain ⟨a9, c9, p9, tt9, nv9, n2, n3, cvs, pvs, e9, m1, m2, i2, m3, i3, hnt⟩ := hst
        injection e9 with e9
        subst e9
        have ok9 := hok _ (List.mem_of_getElem? hd9)
        replace m1 := hsub _ m1
        replace m2 := hsub _ m2
        replace m3 := hsub _ m3
        replace hnt := hnt.mono hsub
        have hxl := rule_len ok9.rule
        have hs2 := cl_nine ok9.clause
        have hs3 := pr_nine ok9.prem.2
        have hl2 := row_short' hs2 (Nat.le_trans (CL_len ok9.clause) (by decide))
        have hl3 := row_short' hs3 (Nat.le_trans ok9.prem.1 (by decide))
        have hl4 := ok9.short
        have hc2 : _ ≤ 60 := Nat.le_trans (CL_len ok9.clause) (by decide)
        have hc3 : _ ≤ 60 := Nat.le_trans ok9.prem.1 (by decide)
        have hkt := key_short (show -9 ≤ k by omega) (show k ≤ 9 by omega)
        have q0 : PySem.Str.empty.length = 0 := rfl
        have q1 : (PySem.Str.ofString "step ").length = 5 := by decide
        have q2 : (PySem.Str.ofString " ").length = 1 := by decide
        have q3 : (PySem.Str.ofString " | ").length = 3 := by decide
        kbt_split
        all_goals try (simp only [strLen_append, tx_length, sizeLine_eq]; omega)
        k_dflt (refine' note_spec 51 ?kB ?kF ?kX ?kN ?kT ?kK hnt ok9.note ?kZ ?kd ?ku ?_; (case kB => k_asm); (case kF => k_asm); (case kX => k_asm); (case kN => k_asm); (case kT => k_asm); (case kK => first | exact rfl | assumption); (case kZ => omega); (case kd => ktr_room); (case ku => ktr_units))
        intro t' h' tk' F' N' K'
        kbt_split
        all_goals try (simp only [strLen_append, tx_length, sizeLine_eq]; omega)
        rw [row_eq2 (show k = (i : Int) by omega) (by omega)]
        have hrl := row_len (k := i) (by omega) ok9 hl2 hl3
        have hrv : rvs.length ≤ 10 := by
          have := hT.length
          rw [hcs, List.length_take] at this
          have := rows_len sts
          have := paired_len hP
          omega
        kbt_split
        refine' m_endS (rvs ++ [.str (tx (rowOf i _)) _], css ++ [rowOf i _], rn + 1) (by k_asm) (by k_asm) (fun p hp => List.mem_append_left own hp) (fun p hp => List.mem_append_right ((rw9, W.listOf (rvs ++ [_]).toArray (rn + 1)) :: (px, instObj 220 dx) :: (dx, (W.dictOf [{ hash := PyData.keyHash w.params (Str.ofString "steps"), key := .str (Str.ofString "steps") t1, val := .ref ls }, { hash := PyData.keyHash w.params (Str.ofString "named"), key := .str (Str.ofString "named") t2, val := .ref ln }, { hash := PyData.keyHash w.params (Str.ofString "empty"), key := .str (Str.ofString "empty") t3, val := .int e te }] 3)) :: (ls, W.listOf vs.toArray sn) :: (ln, W.listOf #[Value.int 0 tn] 0) :: news) hp) hoff (fun _ h => nomatch h) ?_ ⟨hT.snoc _ _, rows_take hcs (by rw [← hd9]; congr 1; omega)⟩
        kst_same
      · intro c u h tk hP2 F1 N1
        obtain ⟨rvs, css, rn⟩ := c
        obtain ⟨hT, hcs⟩ := hP2
        dsimp only at hT hcs N1
        have hcs2 : css = rowsOf sts := by
          rw [hcs, List.take_of_length_le]
          have := rows_len sts
          have := paired_len hP
          omega
        subst hcs2
        have hsum := rows_sum hok (by have := paired_len hP; omega)
        have hrl := rows_len sts
        have hpl := paired_len hP
        dsimp only [kstB] at F1
        clear F9 N9 hR hcs
        kbt_split
        exact hret _ _ _ (by k_asm) (kst_newsOf (by assumption) (fun p hp => .tail _ hp)))
end

end
local macro_rules | `(tactic| kbt_split) => wk ["exec ( PySem.Stmt.While _ _ _ _ ) _", "exec ( PySem.Stmt.For _ _ _ _ _ ) _", "eval ( PySem.Expr.ListComp _ _ _ _ ) _", "call ( Value.ref 227 ) _", "call ( Value.ref 239 ) _", "call ( Value.ref 156 ) _", "call ( Value.ref 281 ) _", "call ( Value.ref 295 ) _", "call ( Value.ref 300 ) _", "pyIter ( Value.ref _ )"]
theorem fresh_Menus : True := by first | row_walk | trivial
local macro_rules | `(tactic| walk_at "none Menus 0") => `(tactic| fail)
local macro_rules | `(tactic| walk_at "none Menus 1") => `(tactic| fail)
local macro_rules | `(tactic| walk_at "none Menus 2") => `(tactic| fail)
local macro_rules | `(tactic| walk_at "none Menus 3") => `(tactic| fail)
local macro_rules | `(tactic| walk_at "none Menus 4") => `(tactic| fail)
local macro_rules | `(tactic| walk_at "none Menus 5") => `(tactic| fail)
local macro_rules | `(tactic| walk_at "none Menus 6") => `(tactic| fail)
local macro_rules | `(tactic| walk_at "none Menus 7") => `(tactic| fail)
local macro_rules | `(tactic| walk_at "none Menus 8") => `(tactic| fail)
section
-- needs: PTx
theorem apart_lt {news : List (Addr × Obj)} {D : Addr} {od : Obj} (h : ∀ p ∈ news, p.1 < D) : ∀ p ∈ news, ∀ q ∈ [(D, od)], p.1 ≠ q.1 := by
  intro p hp q hq
  rw [List.mem_singleton.mp hq]
  exact Nat.ne_of_lt (h p hp)
theorem rl_four : PySem.Str.ofString "input" ∈ RL ∧ PySem.Str.ofString "bits" ∈ RL ∧ PySem.Str.ofString "farkas" ∈ RL ∧ PySem.Str.ofString "divide" ∈ RL := by
  refine ⟨.head _, .tail _ (.head _), .tail _ (.tail _ (.head _)), .tail _ (.tail _ (.tail _ (.head _)))⟩
/-- a rule's name -/
def RuleV (v : Value) : Prop := ∃ x t, x ∈ RL ∧ v = .str x t
/-- a clause's tuple -/
def ClauseV (tl : List (Addr × Obj)) (v : Value) : Prop := ∃ (c : Addr) (n : Nat) (cvs : List Value) (ns : List Int), v = .ref c ∧ (c, ({ cls := .type "tuple", data := .seq cvs.toArray n } : Obj)) ∈ tl ∧ IntsAre cvs ns ∧ ns ∈ CL
theorem rules_pack {h₀ h : Heap} {L D df : Addr} {o : Obj} {news : List (Addr × Obj)} {t1 t2 t3 t4 : Tok}
    (N : News h₀ L h ((D, W.listOf #[.str (PySem.Str.ofString "input") t1, .str (PySem.Str.ofString "bits") t2, .str (PySem.Str.ofString "farkas") t3, .str (PySem.Str.ofString "divide") t4] 0) :: (df, o) :: news)) (l9 : df < D ∧ AllLt D news) :
    ∃ (tl : List (Addr × Obj)) (vs : List Value) (n : Nat), News h₀ L h ((df, o) :: (tl ++ news)) ∧ (∀ p ∈ (df, o) :: news, ∀ q ∈ tl, p.1 ≠ q.1) ∧ (D, W.listOf vs.toArray n) ∈ tl ∧ (∀ v ∈ vs, RuleV v) ∧ vs.length = 4 := by
  have hrl := rl_four
  refine ⟨[(D, W.listOf #[.str (PySem.Str.ofString "input") t1, .str (PySem.Str.ofString "bits") t2, .str (PySem.Str.ofString "farkas") t3, .str (PySem.Str.ofString "divide") t4] 0)], _, _, fun p hp => N p ?_, apart_lt fun p hp => ?_, .head _, ?_, rfl⟩
  · simp only [List.mem_cons, List.mem_append, List.not_mem_nil, or_false] at hp ⊢
    rcases hp with h | h | h <;> simp only [h, true_or, or_true]
  · rcases List.mem_cons.mp hp with rfl | hp
    · exact l9.1
    · exact allLt_mem l9.2 p hp
  · intro v hv
    simp only [List.mem_cons, List.not_mem_nil, or_false] at hv
    rcases hv with rfl | rfl | rfl | rfl
    · exact ⟨_, _, hrl.1, rfl⟩
    · exact ⟨_, _, hrl.2.1, rfl⟩
    · exact ⟨_, _, hrl.2.2.1, rfl⟩
    · exact ⟨_, _, hrl.2.2.2, rfl⟩
theorem clauses_pack {h₀ h : Heap} {L D df c0 c1 c2 c3 : Addr} {o : Obj} {news : List (Addr × Obj)} {t1 t2 t3 t4 t5 t6 : Tok}
    (N : News h₀ L h ((D, W.listOf #[.ref c0, .ref c1, .ref c2, .ref c3] 0) :: (c3, ({ cls := .type "tuple", data := .seq #[.int (-2) t4, .int (-3) t5, .int 5 t6] } : Obj)) :: (c2, ({ cls := .type "tuple", data := .seq #[.int (-1) t2, .int 2 t3] } : Obj)) ::
      (c1, ({ cls := .type "tuple", data := .seq #[.int 1 t1] } : Obj)) :: (c0, ({ cls := .type "tuple", data := .seq #[] } : Obj)) :: (df, o) :: news))
    (l1 : df < c0 ∧ AllLt c0 news) (l2 : c0 < c1 ∧ df < c1 ∧ AllLt c1 news) (l3 : c1 < c2 ∧ c0 < c2 ∧ df < c2 ∧ AllLt c2 news) (l4 : c2 < c3 ∧ c1 < c3 ∧ c0 < c3 ∧ df < c3 ∧ AllLt c3 news) (l5 : c3 < D ∧ c2 < D ∧ c1 < D ∧ c0 < D ∧ df < D ∧ AllLt D news) :
    ∃ (tl : List (Addr × Obj)) (vs : List Value) (n : Nat), News h₀ L h ((df, o) :: (tl ++ news)) ∧ (∀ p ∈ (df, o) :: news, ∀ q ∈ tl, p.1 ≠ q.1) ∧ (D, W.listOf vs.toArray n) ∈ tl ∧ (∀ v ∈ vs, ClauseV tl v) ∧ vs.length = 4 := by
  refine ⟨[(D, W.listOf #[.ref c0, .ref c1, .ref c2, .ref c3] 0), (c3, ({ cls := .type "tuple", data := .seq #[.int (-2) t4, .int (-3) t5, .int 5 t6] } : Obj)), (c2, ({ cls := .type "tuple", data := .seq #[.int (-1) t2, .int 2 t3] } : Obj)),
      (c1, ({ cls := .type "tuple", data := .seq #[.int 1 t1] } : Obj)), (c0, ({ cls := .type "tuple", data := .seq #[] } : Obj))], _, _, fun p hp => N p ?_, ?_, .head _, ?_, rfl⟩
  · simp only [List.mem_cons, List.mem_append, List.not_mem_nil, or_false] at hp ⊢
    rcases hp with h | (h | h | h | h | h) | h <;> simp only [h, true_or, or_true]
  · intro p hp q hq
    simp only [List.mem_cons, List.not_mem_nil, or_false] at hq
    obtain ⟨a1, b1⟩ := l1
    obtain ⟨_, a2, b2⟩ := l2
    obtain ⟨_, _, a3, b3⟩ := l3
    obtain ⟨_, _, _, a4, b4⟩ := l4
    obtain ⟨_, _, _, _, a5, b5⟩ := l5
    rcases List.mem_cons.mp hp with e | hp
    · rw [e]
      rcases hq with e | e | e | e | e <;> rw [e] <;> apply Nat.ne_of_lt <;> assumption
    · rcases hq with e | e | e | e | e <;> rw [e] <;> apply Nat.ne_of_lt
      · exact allLt_mem b5 p hp
      · exact allLt_mem b4 p hp
      · exact allLt_mem b3 p hp
      · exact allLt_mem b2 p hp
      · exact allLt_mem b1 p hp
  · intro v hv
    simp only [List.mem_cons, List.not_mem_nil, or_false] at hv
    rcases hv with rfl | rfl | rfl | rfl
    · exact ⟨c0, _, [], [], rfl, .tail _ (.tail _ (.tail _ (.tail _ (.head _)))), .nil, .head _⟩
    · exact ⟨c1, _, [_], [1], rfl, .tail _ (.tail _ (.tail _ (.head _))), .cons _ _ .nil, .tail _ (.head _)⟩
    · exact ⟨c2, _, [_, _], [-1, 2], rfl, .tail _ (.tail _ (.head _)), .cons _ _ (.cons _ _ .nil), .tail _ (.tail _ (.head _))⟩
    · exact ⟨c3, _, [_, _, _], [-2, -3, 5], rfl, .tail _ (.head _), .cons _ _ (.cons _ _ (.cons _ _ .nil)), .tail _ (.tail _ (.tail _ (.head _)))⟩
set_option maxHeartbeats 8000000 in
theorem rules_spec {w : World} {mean : ExcName → Option Value} {mg mb : Str → Option Value}
    {dp un : Nat} {gd : Option (List Code)} {cn : Str} {cs : Scope} {a : Addr} {ccd : Value} {cl : List (Str × Addr)} {outer : List Env} {A₀ : Around} {base h₀ : Heap} {L : Addr} {m : Str → Option Value} {s : Shared}
    {Q E : Value → Shared → Prop} {news : List (Addr × Obj)} {df : Addr} {o : Obj}
    (B : Below A₀ base outer h₀) (F : Fr h₀ L s.heap m) (X : (Mine.hd.heap_39 w.params).In h₀) (N : News h₀ L s.heap ((df, o) :: news)) (T : Top Mine.vw (looseW Mine.vw [Str.ofString "ROUND"]) mean mg mb h₀) (hk : cs.kind = .function)
    (hd : dp + 1 < 1000) (hu : un + 8 < 9900)
    (hret : ∀ (tl : List (Addr × Obj)) (D : Addr) (vs : List Value) (n : Nat) (h' : Heap) (tk' : Nat), Fr h₀ L h' m → News h₀ L h' ((df, o) :: (tl ++ news)) → (∀ p ∈ (df, o) :: news, ∀ q ∈ tl, p.1 ≠ q.1) → (D, W.listOf vs.toArray n) ∈ tl → (∀ v ∈ vs, RuleV v) → vs.length = 4 → Q (.ref D) { s with heap := h', toks := tk' }) :
    wpAny (model PySem.Challenge.rw_sj0098_01.row.prog w) (ktrTop dp un gd cn cs L a ccd cl outer) (call (.ref 246) []) Q E s := by
  refine wpAny_call ?_
  w_strict (
    k_dflt ktr_enter
    kbt_split
    (rename News h₀ L _ _ => N9)
    (rename _ < _ ∧ AllLt _ news => l9)
    obtain ⟨tl9, vs9, n9, N8, a9, m9, r9, e9⟩ := rules_pack N9 l9
    exact hret tl9 _ vs9 n9 _ _ (by k_asm) N8 a9 m9 r9 e9)
set_option maxHeartbeats 8000000 in
theorem clauses_spec {w : World} {mean : ExcName → Option Value} {mg mb : Str → Option Value}
    {dp un : Nat} {gd : Option (List Code)} {cn : Str} {cs : Scope} {a : Addr} {ccd : Value} {cl : List (Str × Addr)} {outer : List Env} {A₀ : Around} {base h₀ : Heap} {L : Addr} {m : Str → Option Value} {s : Shared}
    {Q E : Value → Shared → Prop} {news : List (Addr × Obj)} {df : Addr} {o : Obj}
    (B : Below A₀ base outer h₀) (F : Fr h₀ L s.heap m) (X : (Mine.hd.heap_39 w.params).In h₀) (N : News h₀ L s.heap ((df, o) :: news)) (T : Top Mine.vw (looseW Mine.vw [Str.ofString "ROUND"]) mean mg mb h₀) (hk : cs.kind = .function)
    (hd : dp + 1 < 1000) (hu : un + 8 < 9900)
    (hret : ∀ (tl : List (Addr × Obj)) (D : Addr) (vs : List Value) (n : Nat) (h' : Heap) (tk' : Nat), Fr h₀ L h' m → News h₀ L h' ((df, o) :: (tl ++ news)) → (∀ p ∈ (df, o) :: news, ∀ q ∈ tl, p.1 ≠ q.1) → (D, W.listOf vs.toArray n) ∈ tl → (∀ v ∈ vs, ClauseV tl v) → vs.length = 4 → Q (.ref D) { s with heap := h', toks := tk' }) :
    wpAny (model PySem.Challenge.rw_sj0098_01.row.prog w) (ktrTop dp un gd cn cs L a ccd cl outer) (call (.ref 253) []) Q E s := by
  refine wpAny_call ?_
  w_strict (
    k_dflt ktr_enter
    kbt_split
    (rename News h₀ L _ _ => N9)
    (rename _ < _ ∧ _ < _ ∧ _ < _ ∧ _ < _ ∧ _ < _ ∧ AllLt _ news => l5)
    (rename _ < _ ∧ _ < _ ∧ _ < _ ∧ _ < _ ∧ AllLt _ news => l4)
    (rename _ < _ ∧ _ < _ ∧ _ < _ ∧ AllLt _ news => l3)
    (rename _ < _ ∧ _ < _ ∧ AllLt _ news => l2)
    (rename _ < _ ∧ AllLt _ news => l1)
    obtain ⟨tl9, vs9, n9, N8, a9, m9, r9, e9⟩ := clauses_pack N9 l1 l2 l3 l4 l5
    exact hret tl9 _ vs9 n9 _ _ (by k_asm) N8 a9 m9 r9 e9)
section
variable {prog : Program} {w : World} {A : Around} {E : Value → Shared → Prop} {s : Shared} {h₀ : Heap} {L D : Addr} {m : Str → Option Value} {p₀ : Addr × Obj} {tl news : List (Addr × Obj)} {Q : Value → Shared → Prop} {vs : List Value} {n : Nat}
theorem rules_sub {value slice : PySem.Expr} {k : Int} {u : Tok} {e1 e2 e3 e4 e5 e6 e7 e8 e9 : Addr × Obj} (N : News h₀ L s.heap (e1 :: e2 :: e3 :: e4 :: e5 :: e6 :: e7 :: e8 :: e9 :: (tl ++ news))) (hm : (D, W.listOf vs.toArray n) ∈ tl) (hv : ∀ v ∈ vs, RuleV v) (hl : vs.length = 4) (h0 : 0 ≤ k) (h1 : k < 4)
    (h : ∀ x t, x ∈ RL → Q (.str x t) s)
    (hs : subscripted slice false (.ref D) (.int k u) = operate [.ref D, .int k u] (getItem (.ref D) (.int k u)) := by with_unfolding_all rfl) :
    wpAny (model prog w) A (subscriptTail value slice (.ref D) (.int k u)) Q E s := by
  have hL := News.isList N (.tail _ (.tail _ (.tail _ (.tail _ (.tail _ (.tail _ (.tail _ (.tail _ (.tail _ (List.mem_append_left _ hm))))))))))
  have hk : k.toNat < vs.length := by omega
  obtain ⟨x, t, hx, e⟩ := hv _ (List.getElem_mem hk)
  exact tail_any hL.typeIs slot_list_getitem.lookup (wpAny_getItem_list hL h0 (by omega) (x := vs[k.toNat]) (by simp [hk]) (e ▸ h x t hx)) hs
theorem clauses_sub {value slice : PySem.Expr} {k : Int} {u : Tok} {e1 e2 e3 e4 e5 e6 e7 e8 e9 : Addr × Obj} (N : News h₀ L s.heap (e1 :: e2 :: e3 :: e4 :: e5 :: e6 :: e7 :: e8 :: e9 :: (tl ++ news))) (hm : (D, W.listOf vs.toArray n) ∈ tl) (hv : ∀ v ∈ vs, ClauseV tl v) (hl : vs.length = 4) (h0 : 0 ≤ k) (h1 : k < 4)
    (h : ∀ c n cvs ns, (c, ({ cls := .type "tuple", data := .seq (List.toArray cvs) n } : Obj)) ∈ tl → IntsAre cvs ns → ns ∈ CL → Q (.ref c) s)
    (hs : subscripted slice false (.ref D) (.int k u) = operate [.ref D, .int k u] (getItem (.ref D) (.int k u)) := by with_unfolding_all rfl) :
    wpAny (model prog w) A (subscriptTail value slice (.ref D) (.int k u)) Q E s := by
  have hL := News.isList N (.tail _ (.tail _ (.tail _ (.tail _ (.tail _ (.tail _ (.tail _ (.tail _ (.tail _ (List.mem_append_left _ hm))))))))))
  have hk : k.toNat < vs.length := by omega
  obtain ⟨c, n, cvs, ns, e, h2, h3, h4⟩ := hv _ (List.getElem_mem hk)
  exact tail_any hL.typeIs slot_list_getitem.lookup (wpAny_getItem_list hL h0 (by omega) (x := vs[k.toNat]) (by simp [hk]) (e ▸ h c n cvs ns h2 h3 h4)) hs
theorem tup_df {l : Addr} {zs : List Value} (F : Fr h₀ L s.heap m) (N : News h₀ L s.heap (p₀ :: news)) (hl : (l, W.listOf zs.toArray n) ∈ news) (hz : zs.length ≤ 1000000)
    (h : ∀ D h', Fr h₀ L h' m → News h₀ L h' (p₀ :: (D, ({ cls := .type "tuple", data := .seq zs.toArray } : Obj)) :: news) → (∀ p ∈ p₀ :: news, p.1 < D) → Q (.ref D) { s with heap := h' }) : wpAny (model prog w) A (call (.type "tuple") [.ref l]) Q E s := by
  refine m_tupleL F N (.tail _ hl) hz fun D h' F' N' l1 => h D h' F' (fun p hp => N' p ?_) l1
  simp only [List.mem_cons] at hp ⊢
  rcases hp with h | h | h <;> simp only [h, true_or, or_true]
end

end
theorem fresh_Eqs : True := by first | row_walk | trivial
local macro_rules | `(tactic| walk_at "none Eqs 0") => `(tactic| fail)
section
-- needs: Menus
section
variable {prog : Program} {w : World} {A : Around} {E : Value → Shared → Prop} {s : Shared} {h₀ : Heap} {L a b : Addr} {news : List (Addr × Obj)} {Q : Value → Shared → Prop}
theorem ne_dat {d : Dat} (N : News h₀ L s.heap news) (Da : DatIn news (.ref a) d) (Db : DatIn news (.ref b) d) (hk : kqdOk 60 d = true) (hu : A.units + 64 < cLine) (h : Q (.bool false) s) : wpAny (model prog w) A (compareOp .NotEq (.ref a) (.ref b)) Q E s := by
  obtain ⟨as, ra⟩ := kqd_in N 60 Da hk
  obtain ⟨bs, rb⟩ := kqd_in N 60 Db hk
  have l := kqd_lay 60 d hk
  have e : PyData.eqv (kqdP d) (kqdP d) = true := (kqd_eqv 60 d d 60 hk hk).mpr rfl
  have sh : SeqAt.shaped (kqdP d) = true := by unfold SeqAt.shaped; rw [l.1, Bool.true_and]; exact decide_eq_true (Nat.le_trans l.2 (by decide))
  exact ne_dataH ra rb sh sh hu (by rw [e]; exact h)
/-- a text of a list at a place -/
theorem tx_at {value slice : PySem.Expr} {vs : List Value} {css : List (List Nat)} {n : Nat} {k : Int} {u : Tok} {c : List Nat} (N : News h₀ L s.heap news) (hm : (a, W.listOf vs.toArray n) ∈ news) (hT : TxAll vs css) (h0 : 0 ≤ k) (hfit : k < 2 ^ 63) (hc : css[k.toNat]? = some c)
    (h : ∀ t, Q (.str (tx c) t) s)
    (hs : subscripted slice false (.ref a) (.int k u) = operate [.ref a, .int k u] (getItem (.ref a) (.int k u)) := by with_unfolding_all rfl) :
    wpAny (model prog w) A (subscriptTail value slice (.ref a) (.int k u)) Q E s := by
  have hl := News.isList N hm
  obtain ⟨t, ht⟩ := hT.get hc
  exact tail_any hl.typeIs slot_list_getitem.lookup (wpAny_getItem_list hl h0 hfit (x := .str (tx c) t) (by simpa using ht) (h t)) hs
end
theorem kqd_note {n : Nat} {d : Dat} (h : NoteOk n d) : kqdOk n d = true := by
  induction h with
  | none n => cases n <;> rfl
  | int n i _ => cases n <;> rfl
  | str n c hc =>
    have H : ∀ c ∈ WL, PyData.strOk (tx c) = true := by decide +kernel
    have := H c hc
    cases n <;> exact this
  | tuple n ds _ ih =>
    show ds.all (kqdOk n) = true
    exact List.all_eq_true.mpr ih
theorem kqd_list {d : Dat} (h : NoteOk 51 d) : kqdOk 60 (.list [d]) = true := by
  show [d].all (kqdOk 59) = true
  rw [List.all_cons, kqd_note (h.mono (by decide)), List.all_nil, Bool.true_and]
theorem kqd_ints (ns : List Int) : kqdOk 60 (.tuple (ns.map .int)) = true := by
  show (ns.map Dat.int).all (kqdOk 59) = true
  refine List.all_eq_true.mpr fun d hd => ?_
  obtain ⟨i, _, rfl⟩ := List.mem_map.mp hd
  rfl
theorem dat_ints {news : List (Addr × Obj)} {vs : List Value} {ns : List Int} (h : IntsAre vs ns) : DatAll news vs (ns.map .int) := by
  induction h with
  | nil => exact .nil
  | cons k t _ ih => exact .cons (.int k t) ih
/-- no end of a row, no bar -/
def Pl (c : Nat) : Prop := c ≠ 10 ∧ c ≠ 124
theorem joinL_mem {sep : List Nat} {c : Nat} : ∀ {css : List (List Nat)}, c ∈ joinL sep css → c ∈ sep ∨ ∃ w ∈ css, c ∈ w
  | [], h => nomatch h
  | [x], h => .inr ⟨x, .head _, h⟩
  | x :: y :: r, h => by
    have h' : c ∈ x ++ sep ++ joinL sep (y :: r) := h
    rcases List.mem_append.mp h' with h | h
    · rcases List.mem_append.mp h with h | h
      · exact .inr ⟨x, .head _, h⟩
      · exact .inl h
    · rcases joinL_mem h with h | ⟨w, hw, h⟩
      · exact .inl h
      · exact .inr ⟨w, .tail _ hw, h⟩
theorem pl_int (i : Int) : ∀ c ∈ intTx i, Pl c := by
  intro c hc
  unfold Pl
  rcases intTx_free i c hc with h | h <;> omega
theorem pl_note {n : Nat} {d : Dat} (h : NoteOk n d) : ∀ c ∈ noteTx d, Pl c := by
  induction h with
  | none n => rw [noteTx]; unfold Pl; decide
  | int n i _ => rw [noteTx]; exact pl_int i
  | str n c hc =>
    rw [noteTx, tx_toList]
    have H : ∀ w ∈ WL, ∀ c ∈ w, c ≠ 10 ∧ c ≠ 124 := by decide
    exact H c hc
  | tuple n ds _ ih =>
    rw [note_tuple]
    intro c hc
    rcases List.mem_cons.mp hc with rfl | hc
    · unfold Pl; decide
    · rcases List.mem_append.mp hc with hc | hc
      · rcases joinL_mem hc with hc | ⟨w, hw, hc⟩
        · rw [List.mem_singleton.mp hc]; unfold Pl; decide
        · obtain ⟨d, hd, rfl⟩ := List.mem_map.mp hw
          exact ih d hd c hc
      · rw [List.mem_singleton.mp hc]; unfold Pl; decide
theorem pl_row (ns : List Int) : ∀ c ∈ rowTx ns, Pl c := by
  intro c hc
  unfold rowTx at hc
  split at hc
  · rw [List.mem_singleton.mp hc]; unfold Pl; decide
  · rcases joinL_mem hc with hc | ⟨w, hw, hc⟩
    · rw [List.mem_singleton.mp hc]; unfold Pl; decide
    · obtain ⟨i, _, rfl⟩ := List.mem_map.mp hw
      exact pl_int i c hc
theorem pl_rule {x : PySem.Str} (h : x ∈ RL) : ∀ c ∈ x.cps.toList, Pl c := by
  have H : ∀ y ∈ RL, ∀ c ∈ y.cps.toList, c ≠ 10 ∧ c ≠ 124 := by decide +kernel
  exact H x h
/-- a row's first part -/
def headOf (k : Nat) (d : StD) : List Nat := [115, 116, 101, 112, 32] ++ (digs k ++ ([32] ++ d.x.cps.toList))
def partsOf (k : Nat) (d : StD) : List (List Nat) := [headOf k d, rowTx d.cl, rowTx d.pr, noteTx d.nt]
theorem parts_row (k : Nat) (d : StD) : joinL [32, 124, 32] (partsOf k d) = rowOf k d := by
  simp only [partsOf, joinL, rowOf, headOf, List.append_assoc, List.cons_append, List.nil_append]
theorem pl_head {k : Nat} {d : StD} (hx : d.x ∈ RL) : ∀ c ∈ headOf k d, Pl c := by
  intro c hc
  unfold headOf at hc
  rcases List.mem_append.mp hc with hc | hc
  · have H : ∀ c ∈ [115, 116, 101, 112, 32], c ≠ 10 ∧ c ≠ 124 := by decide
    exact H c hc
  · rcases List.mem_append.mp hc with hc | hc
    · have := digs_all _ c hc
      unfold Pl; omega
    · rcases List.mem_append.mp hc with hc | hc
      · rw [List.mem_singleton.mp hc]; unfold Pl; decide
      · exact pl_rule hx c hc
theorem pl_parts {k : Nat} {d : StD} (ok : StOk d) : ∀ w ∈ partsOf k d, ∀ c ∈ w, Pl c := by
  intro w hw
  simp only [partsOf, List.mem_cons, List.not_mem_nil, or_false] at hw
  rcases hw with rfl | rfl | rfl | rfl
  · exact pl_head ok.rule
  · exact pl_row _
  · exact pl_row _
  · exact pl_note ok.note
theorem bar_parts {k : Nat} {d : StD} (ok : StOk d) : ∀ w ∈ partsOf k d, 124 ∉ w := fun w hw hm => (pl_parts ok w hw 124 hm).2 rfl
theorem end_row {k : Nat} {d : StD} (ok : StOk d) : 10 ∉ rowOf k d := by
  intro hm
  rw [← parts_row] at hm
  rcases joinL_mem hm with h | ⟨w, hw, h⟩
  · exact absurd h (by decide)
  · exact (pl_parts ok w hw 10 h).1 rfl
theorem end_rows {sts : List StD} (hok : ∀ d ∈ sts, StOk d) : ∀ w ∈ rowsOf sts, 10 ∉ w := by
  intro w hw
  obtain ⟨i, hi, e⟩ := List.getElem_of_mem hw
  rw [rows_len] at hi
  have h1 : sts[i]? = some sts[i] := List.getElem?_eq_getElem hi
  have h2 := rows_at h1
  rw [List.getElem?_eq_getElem (by rw [rows_len]; exact hi)] at h2
  have h3 := Option.some.inj h2
  rw [← e, h3]
  exact end_row (hok _ (List.getElem_mem hi))
/-- four texts -/
theorem four_tx {vs : List Value} {a b c d : List Nat} (h : TxAll vs [a, b, c, d]) : ∃ t1 t2 t3 t4, vs = [.str (tx a) t1, .str (tx b) t2, .str (tx c) t3, .str (tx d) t4] := by
  obtain ⟨l, rfl, e⟩ := h
  match l, e with
  | [(x1, t1), (x2, t2), (x3, t3), (x4, t4)], e =>
    simp only [List.map_cons, List.map_nil, List.cons.injEq, and_true] at e
    obtain ⟨rfl, rfl, rfl, rfl⟩ := e
    exact ⟨t1, t2, t3, t4, rfl⟩
  | [], e => simp at e
  | [_], e => simp at e
  | [_, _], e => simp at e
  | [_, _, _], e => simp at e
  | _ :: _ :: _ :: _ :: _ :: _, e => simp at e
theorem head_eq {k : Int} {i : Nat} {d : StD} (hk : k = (i : Int)) :
    PySem.Str.ofString "step " ++ PySem.Str.ofString (toString k) ++ PySem.Str.ofString " " ++ d.x = tx (headOf i d) := by
  subst hk
  rw [digs_of_int]
  have e1 : PySem.Str.ofString "step " = tx [115, 116, 101, 112, 32] := by decide
  have e2 : PySem.Str.ofString " " = tx [32] := by decide
  have e4 : d.x = tx d.x.cps.toList := (tx_eta d.x).symm
  rw [e1, e2]
  conv => lhs; rw [e4]
  simp only [tx_append]
  unfold headOf
  simp only [List.append_assoc]
theorem small_nat {n : Nat} (h : n < 2 ^ 62) : Builtin.Range.small 0 (n : Int) 1 = true := small_one (by decide) (by decide) (by omega) (by omega)

end
theorem fresh_Law : True := by first | row_walk | trivial
local macro_rules | `(tactic| walk_at "none Law 0") => `(tactic| fail)
section
-- needs: Eqs
theorem swap_mem {α : Type} (l tR r : List α) : ∀ p ∈ l ++ (tR ++ r), p ∈ tR ++ (l ++ r) := fun _ hp =>
  (List.mem_append.mp hp).elim (fun h => List.mem_append_right _ (List.mem_append_left _ h)) fun h => (List.mem_append.mp h).elim (List.mem_append_left _) fun h => List.mem_append_right _ (List.mem_append_right _ h)
theorem all_cons {α : Type} {P : α → Prop} {x : α} {l : List α} (h : P x) (t : ∀ p ∈ l, P p) : ∀ p ∈ x :: l, P p := List.forall_mem_cons.mpr ⟨h, t⟩
theorem all_app {α : Type} {P : α → Prop} {l r : List α} (h : ∀ p ∈ l, P p) (t : ∀ p ∈ r, P p) : ∀ p ∈ l ++ r, P p := fun p hp => (List.mem_append.mp hp).elim (h p) (t p)
theorem at_n {α : Type} {l : List α} {x : α} (i : Nat) (h : l[i]? = some x) : x ∈ l := List.mem_of_getElem? h
theorem law_names {w : World} {h₀ h : Heap} {L ln ls px dx lc l1 df fc : Addr} {f g oc : Obj} {t1 t2 t3 te tn : Tok} {ws : List Value} {cc : Nat} (N : News h₀ L h [(ln, W.listOf #[Value.int 0 tn] 0), (ls, W.listOf #[] 0), (px, instObj 220 dx), (dx, (W.dictOf [{ hash := PyData.keyHash w.params (Str.ofString "steps"), key := .str (Str.ofString "steps") t1, val := .ref ls }, { hash := PyData.keyHash w.params (Str.ofString "named"), key := .str (Str.ofString "named") t2, val := .ref ln }, { hash := PyData.keyHash w.params (Str.ofString "empty"), key := .str (Str.ofString "empty") t3, val := .int (-1) te }] 3)), (lc, W.listOf ws.toArray cc), (l1, f), (df, g), (fc, oc)]) :
    ∃ ln' ls' px' dx' lc' df' ws' cc' oc' g' t1' t2' t3' te' tn', (ln' = ln ∧ ls' = ls ∧ px' = px ∧ dx' = dx ∧ lc' = lc ∧ df' = df ∧ ws' = ws ∧ cc' = cc ∧ oc' = oc ∧ g' = g) ∧ t1' = t1 ∧ t2' = t2 ∧ t3' = t3 ∧ te' = te ∧ tn' = tn ∧
      News h₀ L h [(df, g), (dx, (W.dictOf [{ hash := PyData.keyHash w.params (Str.ofString "steps"), key := .str (Str.ofString "steps") t1, val := .ref ls }, { hash := PyData.keyHash w.params (Str.ofString "named"), key := .str (Str.ofString "named") t2, val := .ref ln }, { hash := PyData.keyHash w.params (Str.ofString "empty"), key := .str (Str.ofString "empty") t3, val := .int (-1) te }] 3)), (ls, W.listOf ([] : List Value).toArray 0), (px, instObj 220 dx), (ln, W.listOf #[Value.int 0 tn] 0), (lc, W.listOf ws.toArray cc), (fc, oc)] := by
  refine ⟨ln, ls, px, dx, lc, df, ws, cc, oc, g, t1, t2, t3, te, tn, ⟨rfl, rfl, rfl, rfl, rfl, rfl, rfl, rfl, rfl, rfl⟩, rfl, rfl, rfl, rfl, rfl, ?_⟩
  exact all_cons (N _ (at_n 6 rfl)) (all_cons (N _ (at_n 3 rfl)) (all_cons (N _ (at_n 1 rfl)) (all_cons (N _ (at_n 2 rfl)) (all_cons (N _ (at_n 0 rfl)) (all_cons (N _ (at_n 4 rfl)) (all_cons (N _ (at_n 7 rfl)) fun _ h => nomatch h))))))
theorem off7 {k : Addr} {a b c d e f : Addr × Obj} {rest own : List (Addr × Obj)} (h1 : a.1 ≠ k) (h2 : b.1 ≠ k) (h3 : c.1 ≠ k) (h4 : d.1 ≠ k) (h5 : e.1 ≠ k) (h6 : f.1 ≠ k) (h7 : ∀ q ∈ rest, q.1 ≠ k) (h8 : ∀ q ∈ own, q.1 ≠ k) :
    ∀ p ∈ a :: b :: c :: d :: e :: f :: (rest ++ own), p.1 ≠ k := by
  intro p hp
  rcases List.mem_cons.mp hp with rfl | hp
  · exact h1
  rcases List.mem_cons.mp hp with rfl | hp
  · exact h2
  rcases List.mem_cons.mp hp with rfl | hp
  · exact h3
  rcases List.mem_cons.mp hp with rfl | hp
  · exact h4
  rcases List.mem_cons.mp hp with rfl | hp
  · exact h5
  rcases List.mem_cons.mp hp with rfl | hp
  · exact h6
  rcases List.mem_append.mp hp with hp | hp
  · exact h7 p hp
  · exact h8 p hp
theorem pull6 {h₀ h : Heap} {L : Addr} {x a b c d e f : Addr × Obj} {tl r : List (Addr × Obj)} (N : News h₀ L h (x :: (tl ++ a :: b :: c :: d :: e :: f :: r))) : News h₀ L h (x :: a :: b :: c :: d :: e :: f :: (tl ++ r)) := by
  have key : ∀ p, p ∈ a :: b :: c :: d :: e :: f :: r → p ∈ x :: (tl ++ a :: b :: c :: d :: e :: f :: r) := fun p hp => .tail _ (List.mem_append_right _ hp)
  intro p hp
  rcases List.mem_cons.mp hp with e | hp
  · rw [e]; exact N _ (.head _)
  rcases List.mem_cons.mp hp with e | hp
  · rw [e]; exact N _ (key _ (.head _))
  rcases List.mem_cons.mp hp with e | hp
  · rw [e]; exact N _ (key _ (.tail _ (.head _)))
  rcases List.mem_cons.mp hp with e | hp
  · rw [e]; exact N _ (key _ (.tail _ (.tail _ (.head _))))
  rcases List.mem_cons.mp hp with e | hp
  · rw [e]; exact N _ (key _ (.tail _ (.tail _ (.tail _ (.head _)))))
  rcases List.mem_cons.mp hp with e | hp
  · rw [e]; exact N _ (key _ (.tail _ (.tail _ (.tail _ (.tail _ (.head _))))))
  rcases List.mem_cons.mp hp with e | hp
  · rw [e]; exact N _ (key _ (.tail _ (.tail _ (.tail _ (.tail _ (.tail _ (.head _)))))))
  rcases List.mem_append.mp hp with hp | hp
  · exact N _ (.tail _ (List.mem_append_left _ hp))
  · exact N _ (key _ (.tail _ (.tail _ (.tail _ (.tail _ (.tail _ (.tail _ hp)))))))
theorem pick_at3 {w : World} {mean : ExcName → Option Value} {mg mb : Str → Option Value}
    {dp un : Nat} {gd : Option (List Code)} {cn : Str} {cs : Scope} {a : Addr} {ccd : Value} {cl : List (Str × Addr)} {outer : List Env} {A₀ : Around} {base h₀ : Heap} {L : Addr} {m : Str → Option Value} {s : Shared}
    {Q E : Value → Shared → Prop} {news : List (Addr × Obj)} {x y z : Addr × Obj} {df : Addr} {o : Obj} {l : Addr} {n : Nat} {vs : List Value} {ns : List Int} {at' wide : Int} {t3 tw : Tok}
    (B : Below A₀ base outer h₀) (F : Fr h₀ L s.heap m) (X : (Mine.hd.heap_39 w.params).In h₀) (N : News h₀ L s.heap (x :: y :: z :: (df, o) :: news))
    (T : Top Mine.vw (looseW Mine.vw [Str.ofString "ROUND"]) mean mg mb h₀) (hk : cs.kind = .function) (g1 : x.1 ≠ df) (g2 : y.1 ≠ df) (g3 : z.1 ≠ df)
    (hne : ∀ p ∈ news, p.1 ≠ df) (hf : FeedIs w o l at' t3) (hl : (l, W.listOf vs.toArray n) ∈ news)
    (hI : IntsAre vs ns) (hn : vs.length ≤ 60) (h0 : 0 ≤ at') (h1 : at' < 2 ^ 60) (hw : 0 < wide) (hd : dp + 1 < 1000) (hu : un + 8 < 9900)
    (hret : ∀ r t h' tk' o' t3, Fr h₀ L h' m → News h₀ L h' (x :: y :: z :: (df, o') :: news) → FeedIs w o' l (at' + 1) t3 → 0 ≤ r → r < wide → Q (.int r t) { s with heap := h', toks := tk' }) :
    wpAny (model PySem.Challenge.rw_sj0098_01.row.prog w) (ktrTop dp un gd cn cs L a ccd cl outer) (call (.ref 267) [.ref df, .int wide tw]) Q E s := by
  refine pick_spec (news := x :: y :: z :: news) B F X ?_ T hk ?_ (.tail _ (.tail _ (.tail _ hl))) hf hI hn h0 h1 hw hd hu fun r t h' tk' o' t3 F' N' hf' a b => hret r t h' tk' o' t3 F' ?_ hf' a b
  · intro p hp
    rcases List.mem_cons.mp hp with e | hp
    · rw [e]; exact N _ (.tail _ (.tail _ (.tail _ (.head _))))
    rcases List.mem_cons.mp hp with e | hp
    · rw [e]; exact N _ (.head _)
    rcases List.mem_cons.mp hp with e | hp
    · rw [e]; exact N _ (.tail _ (.head _))
    rcases List.mem_cons.mp hp with e | hp
    · rw [e]; exact N _ (.tail _ (.tail _ (.head _)))
    · exact N _ (.tail _ (.tail _ (.tail _ (.tail _ hp))))
  · intro p hp
    rcases List.mem_cons.mp hp with e | hp
    · rw [e]; exact g1
    rcases List.mem_cons.mp hp with e | hp
    · rw [e]; exact g2
    rcases List.mem_cons.mp hp with e | hp
    · rw [e]; exact g3
    · exact hne p hp
  · intro p hp
    rcases List.mem_cons.mp hp with e | hp
    · rw [e]; exact N' _ (.tail _ (.head _))
    rcases List.mem_cons.mp hp with e | hp
    · rw [e]; exact N' _ (.tail _ (.tail _ (.head _)))
    rcases List.mem_cons.mp hp with e | hp
    · rw [e]; exact N' _ (.tail _ (.tail _ (.tail _ (.head _))))
    rcases List.mem_cons.mp hp with e | hp
    · rw [e]; exact N' _ (.head _)
    · exact N' _ (.tail _ (.tail _ (.tail _ (.tail _ hp))))
/-- what the comprehension over the premises gives -/
def CompPost (w : World) (h₀ : Heap) (L : Addr) (m : Str → Option Value) (s : Shared) (df lc : Addr) (at2 : Int) (i : Nat) (T : List (Addr × Obj)) (v : Value) (s' : Shared) : Prop :=
  ∃ (D : Addr) (ks : List Int) (ys : List Value) (n : Nat) (o' : Obj) (at' : Int) (t' : Tok) (h' : Heap) (tk' : Nat), v = .ref D ∧ s' = { s with heap := h', toks := tk' } ∧ Fr h₀ L h' m ∧ News h₀ L h' ((df, o') :: (D, W.listOf ys.toArray n) :: T) ∧ (∀ p ∈ (df, o') :: T, p.1 ≠ D) ∧
    IntsAre ys ks ∧ (∀ k ∈ ks, 0 ≤ k ∧ k < (i : Int)) ∧ ks.length ≤ 1 ∧ FeedIs w o' lc at' t' ∧ at2 ≤ at' ∧ at' ≤ at2 + 1
theorem comp_mono {M : Model} {A : Around} {E : Value → Shared → Prop} {t : Sem Value} {w : World} {h₀ : Heap} {L : Addr} {m : Str → Option Value} {s : Shared} {df lc : Addr} {at2 : Int} (i : Nat) {T : List (Addr × Obj)} {o : Obj} {t2 : Tok} {Q : Value → Shared → Prop}
    (F : Fr h₀ L s.heap m) (N : News h₀ L s.heap ((df, o) :: T)) (hf : FeedIs w o lc at2 t2)
    (h : wpAny M A t (CompPost w h₀ L m s df lc at2 i T) E s)
    (k : ∀ (D : Addr) (ks : List Int) (ys : List Value) (n : Nat) (o' : Obj) (at' : Int) (t' : Tok) (h' : Heap) (tk' : Nat), Fr h₀ L h' m → News h₀ L h' ((df, o') :: (D, W.listOf ys.toArray n) :: T) → (∀ p ∈ (df, o') :: T, p.1 ≠ D) →
      IntsAre ys ks → (∀ k ∈ ks, 0 ≤ k ∧ k < (i : Int)) → ks.length ≤ 1 → FeedIs w o' lc at' t' → at2 ≤ at' → at' ≤ at2 + 1 → Q (.ref D) { s with heap := h', toks := tk' }) : wpAny M A t Q E s := by
  refine wpAny_mono h (fun v s' p => ?_) fun _ _ e => e
  obtain ⟨D, ks, ys, n, o', at', t', h', tk', rfl, rfl, h1, h2, h3, h4, h5, h6, h7, h8, h9⟩ := p
  exact k D ks ys n o' at' t' h' tk' h1 h2 h3 h4 h5 h6 h7 h8 h9
theorem off_cons {x : Addr × Obj} {r : List (Addr × Obj)} {df : Addr} (h1 : x.1 ≠ df) (h2 : ∀ p ∈ r, p.1 ≠ df) : ∀ p ∈ x :: r, p.1 ≠ df := by
  intro p hp
  rcases List.mem_cons.mp hp with rfl | hp
  · exact h1
  · exact h2 p hp
theorem off_tl {df : Addr} {o : Obj} {tl r : List (Addr × Obj)} (h : ∀ p ∈ r, p.1 ≠ df) (a : ∀ p ∈ (df, o) :: r, ∀ q ∈ tl, p.1 ≠ q.1) : ∀ p ∈ tl ++ r, p.1 ≠ df := by
  intro p hp
  rcases List.mem_append.mp hp with hp | hp
  · exact fun e => a (df, o) (.head _) p hp e.symm
  · exact h p hp
/-- what is built so far -/
structure LS where
  o : Obj
  at' : Int
  t3 : Tok
  vs : List Value
  sn : Nat
  sts : List StD
  e : Int
  te : Tok
  rest : List (Addr × Obj)
def lawLed (w : World) (df dx ls px ln lc fc : Addr) (oc : Obj) (ws : List Value) (cc : Nat) (tn t1 t2 t3 : Tok) (c : LS) : List (Addr × Obj) :=
  (df, c.o) :: (dx, (W.dictOf [{ hash := PyData.keyHash w.params (Str.ofString "steps"), key := .str (Str.ofString "steps") t1, val := .ref ls }, { hash := PyData.keyHash w.params (Str.ofString "named"), key := .str (Str.ofString "named") t2, val := .ref ln }, { hash := PyData.keyHash w.params (Str.ofString "empty"), key := .str (Str.ofString "empty") t3, val := .int c.e c.te }] 3)) :: (ls, W.listOf c.vs.toArray c.sn) :: (px, instObj 220 dx) :: (ln, W.listOf #[Value.int 0 tn] 0) :: (lc, W.listOf ws.toArray cc) :: (fc, oc) :: c.rest
structure LSOk (w : World) (lc : Addr) (base : List Addr) (i : Nat) (c : LS) : Prop where
  feed : FeedIs w c.o lc c.at' c.t3
  lo : 0 ≤ c.at'
  hi : c.at' ≤ 1 + 60 * (i : Int)
  steps : Paired (StIn c.rest) c.vs c.sts
  len : c.vs.length = i
  ok : ∀ d ∈ c.sts, StOk d
  sep : ∀ b ∈ base, ∀ q ∈ c.rest, b ≠ q.1
theorem swap2 {h₀ h : Heap} {L : Addr} {a b : Addr × Obj} {T : List (Addr × Obj)} (N : News h₀ L h (a :: b :: T)) : News h₀ L h (b :: a :: T) := by
  intro p hp
  refine N p ?_
  simp only [List.mem_cons] at hp ⊢
  rcases hp with h | h | h <;> simp only [h, true_or, or_true]
theorem off1_mem {D : Addr} : ∀ {l : List (Addr × Obj)}, LCg.Off1 D l → ∀ p ∈ l, p.1 ≠ D
  | [], _, _, h => nomatch h
  | _ :: _, x, p, h => by
    rcases List.mem_cons.mp h with rfl | h
    · exact x.1
    · exact off1_mem x.2 p h
theorem sink8_mem {a b c d e f g k : Addr × Obj} {tR r : List (Addr × Obj)} : ∀ p ∈ a :: b :: c :: d :: e :: f :: g :: k :: (tR ++ r), p ∈ tR ++ a :: b :: c :: d :: e :: f :: g :: k :: r := by
  intro p hp
  exact swap_mem [a, b, c, d, e, f, g, k] tR r p hp
theorem sink8 {h₀ h : Heap} {L : Addr} {x a b c d e f g k : Addr × Obj} {tR r : List (Addr × Obj)} (N : News h₀ L h (x :: (tR ++ a :: b :: c :: d :: e :: f :: g :: k :: r))) : News h₀ L h (x :: a :: b :: c :: d :: e :: f :: g :: k :: (tR ++ r)) := by
  intro p hp
  rcases List.mem_cons.mp hp with e | hp
  · rw [e]; exact N _ (.head _)
  · exact N _ (.tail _ (sink8_mem p hp))
theorem sink8_off {D : Addr} {a b c d e f g k : Addr × Obj} {tR r : List (Addr × Obj)} (h : ∀ p ∈ tR ++ a :: b :: c :: d :: e :: f :: g :: k :: r, p.1 ≠ D) : ∀ p ∈ a :: b :: c :: d :: e :: f :: g :: k :: (tR ++ r), p.1 ≠ D := fun p hp => h p (sink8_mem p hp)
theorem mem_in8 {h₀ h : Heap} {L : Addr} {x a b c d e f g k q : Addr × Obj} {r : List (Addr × Obj)} (_ : News h₀ L h (x :: a :: b :: c :: d :: e :: f :: g :: k :: r)) (hq : q ∈ r) : q ∈ x :: a :: b :: c :: d :: e :: f :: g :: k :: r :=
  .tail _ (.tail _ (.tail _ (.tail _ (.tail _ (.tail _ (.tail _ (.tail _ (.tail _ hq))))))))
theorem mem_lc {h₀ h : Heap} {L : Addr} {x a b c d e f g k : Addr × Obj} {r : List (Addr × Obj)} (_ : News h₀ L h (x :: a :: b :: c :: d :: e :: f :: g :: k :: r)) : g ∈ a :: b :: c :: d :: e :: f :: g :: k :: r :=
  .tail _ (.tail _ (.tail _ (.tail _ (.tail _ (.tail _ (.head _))))))
theorem paired_mono {α : Type} {R R' : Value → α → Prop} (h : ∀ v d, R v d → R' v d) {vs : List Value} {ds : List α} (p : Paired R vs ds) : Paired R' vs ds := by
  induction p with
  | nil => exact .nil
  | cons a _ ih => exact .cons (h _ _ a) ih
theorem paired_snoc {α : Type} {R : Value → α → Prop} {v : Value} {d : α} (h : R v d) {vs : List Value} {ds : List α} (p : Paired R vs ds) : Paired R (vs ++ [v]) (ds ++ [d]) := by
  induction p with
  | nil => exact .cons h .nil
  | cons a _ ih => exact .cons a ih
theorem nm_rule {x : PySem.Str} (_ : x ∈ RL) : ∃ y, y = x ∧ True := ⟨x, rfl, trivial⟩
theorem nm_clause {ns : List Int} (_ : ns ∈ CL) : ∃ y, y = ns ∧ True := ⟨ns, rfl, trivial⟩
theorem mAt1 {α : Type} {x a : α} {r : List α} : a ∈ x :: a :: r := .tail _ (.head _)
theorem mAt2 {α : Type} {x y a : α} {r : List α} : a ∈ x :: y :: a :: r := .tail _ (.tail _ (.head _))
theorem mAt3 {α : Type} {x y z a : α} {r : List α} : a ∈ x :: y :: z :: a :: r := .tail _ (.tail _ (.tail _ (.head _)))
theorem mAt4 {α : Type} {x y z u a : α} {r : List α} : a ∈ x :: y :: z :: u :: a :: r := .tail _ (.tail _ (.tail _ (.tail _ (.head _))))
theorem mIn6 {α : Type} {x y z u v w a : α} {r q : List α} (h : a ∈ r) : a ∈ x :: y :: z :: u :: v :: w :: (r ++ q) := .tail _ (.tail _ (.tail _ (.tail _ (.tail _ (.tail _ (List.mem_append_left _ h))))))
theorem pull_pt {h₀ h : Heap} {L : Addr} {df dx ls px ln lc fc : Addr × Obj} {r : List (Addr × Obj)} (N : News h₀ L h (df :: dx :: ls :: px :: ln :: lc :: fc :: r)) : News h₀ L h (px :: dx :: ls :: ln :: df :: lc :: fc :: r) := by
  intro p hp
  refine N p ?_
  simp only [List.mem_cons] at hp ⊢
  rcases hp with h | h | h | h | h | h | h | h <;> simp only [h, true_or, or_true]
theorem st_in4 {h₀ h : Heap} {L : Addr} {px dx ls ln df lc fc : Addr × Obj} {rest : List (Addr × Obj)} {vs : List Value} {sts : List StD} (_ : News h₀ L h (px :: dx :: ls :: ln :: df :: lc :: fc :: rest)) (p : Paired (StIn rest) vs sts) : Paired (StIn (df :: lc :: fc :: rest)) vs sts :=
  paired_mono (fun _ _ h => h.mono fun _ hp => .tail _ (.tail _ (.tail _ hp))) p
theorem joinL_bound (sep : List Nat) (css : List (List Nat)) : (joinL sep css).length ≤ (css.map List.length).sum + sep.length * css.length := by
  induction css with
  | nil => simp [joinL]
  | cons x r ih =>
    have e : sep.length * (r.length + 1) = sep.length * r.length + sep.length := Nat.mul_succ _ _
    cases r with
    | nil => simp [joinL]
    | cons y r =>
      show (x ++ sep ++ joinL sep (y :: r)).length ≤ _
      rw [List.length_append, List.length_append]
      simp only [List.map_cons, List.sum_cons, List.length_cons] at ih e ⊢
      omega
theorem end_own {h₀ h : Heap} {L : Addr} {a b c d e f g k : Addr × Obj} {r own : List (Addr × Obj)} (N : News h₀ L h ((a :: b :: c :: d :: e :: f :: g :: k :: r) ++ own)) : News h₀ L h (a :: b :: c :: d :: e :: f :: g :: k :: (r ++ own)) := N
theorem parts_ne {k : Nat} {d : StD} : partsOf k d ≠ [] := fun e => nomatch e
theorem dat_up {h₀ h : Heap} {L : Addr} {x : Addr × Obj} {l : List (Addr × Obj)} {v : Value} {d : Dat} (_ : News h₀ L h (x :: l)) (k : DatIn l v d) : DatIn (x :: l) v d := k.mono fun _ hp => .tail _ hp
theorem mem_up {h₀ h : Heap} {L : Addr} {x q : Addr × Obj} {l : List (Addr × Obj)} (_ : News h₀ L h (x :: l)) (k : q ∈ l) : q ∈ x :: l := .tail _ k
theorem ref_tuple {news : List (Addr × Obj)} {v : Value} {ds : List Dat} (h : DatIn news v (.tuple ds)) : ∃ a, v = .ref a := by
  cases h with
  | tuple hm hd => exact ⟨_, rfl⟩
theorem ref_list {news : List (Addr × Obj)} {v : Value} {ds : List Dat} (h : DatIn news v (.list ds)) : ∃ a, v = .ref a := by
  cases h with
  | list hm hd => exact ⟨_, rfl⟩
theorem drop_tl {h₀ h : Heap} {L : Addr} {tl l : List (Addr × Obj)} (N : News h₀ L h (tl ++ l)) : News h₀ L h l := fun p hp => N p (List.mem_append_right _ hp)
theorem small_of_nine {ns : List Int} (h : ∀ i ∈ ns, -9 ≤ i ∧ i ≤ 9) : ∀ i ∈ ns, Small i := fun i hi => small_nine (h i hi).1 (h i hi).2
theorem dat_app {tl l : List (Addr × Obj)} {v : Value} {d : Dat} (k : DatIn l v d) : DatIn (tl ++ l) v d := k.mono fun _ hp => List.mem_append_right _ hp
theorem drop_end {h₀ h : Heap} {L : Addr} {x y : Addr × Obj} {tl l : List (Addr × Obj)} (N : News h₀ L h (x :: (tl ++ y :: l))) : News h₀ L h l := fun p hp => N p (.tail _ (List.mem_append_right _ (.tail _ hp)))
theorem own_in {a b c d e f g k : Addr × Obj} {r own : List (Addr × Obj)} : ∀ p ∈ own, p ∈ a :: b :: c :: d :: e :: f :: g :: k :: (r ++ own) := fun _ hp => List.mem_append_right (a :: b :: c :: d :: e :: f :: g :: k :: r) hp
theorem nm_step {sts : List StD} {k : Nat} {d : StD} (_ : sts[k]? = some d) : ∃ y, y = d ∧ True := ⟨d, rfl, trivial⟩
theorem sub_end {h₀ h : Heap} {L : Addr} {a b c d e f g k : Addr × Obj} {r own : List (Addr × Obj)} (_ : News h₀ L h (a :: b :: c :: d :: e :: f :: g :: k :: (r ++ own))) : ∀ q ∈ f :: g :: k :: r, q ∈ a :: b :: c :: d :: e :: f :: g :: k :: (r ++ own) := by
  intro q hq
  simp only [List.mem_cons, List.mem_append] at hq ⊢
  rcases hq with h | h | h | h <;> simp only [h, true_or, or_true]
theorem m_neI {prog : Program} {w : World} {A : Around} {E : Value → Shared → Prop} {s : Shared} {Q : Value → Shared → Prop} {a b : Int} {t u : Tok} (h : a = b) (hq : Q (.bool false) s) : wpAny (model prog w) A (compareOp .NotEq (.int a t) (.int b u)) Q E s := by
  refine PyProof.Rows.ne_int ?_
  rw [h, bne_self_eq_false]
  exact hq
theorem pull_add {h₀ h : Heap} {L : Addr} {df dx ls px P D : Addr × Obj} {r : List (Addr × Obj)} (N : News h₀ L h (df :: P :: D :: dx :: ls :: px :: r)) : News h₀ L h (dx :: ls :: px :: df :: P :: D :: r) := by
  intro p hp
  refine N p ?_
  simp only [List.mem_cons] at hp ⊢
  rcases hp with h | h | h | h | h | h | h <;> simp only [h, true_or, or_true]
theorem off_all {b : Addr} {df P D ln lc fc : Addr × Obj} {tC tR tl rest own : List (Addr × Obj)} (h0 : df.1 ≠ b) (hP : P.1 ≠ b) (hD : D.1 ≠ b) (h1 : ln.1 ≠ b) (h2 : lc.1 ≠ b) (h3 : fc.1 ≠ b) (hC : ∀ q ∈ tC, b ≠ q.1) (hR : ∀ q ∈ tR, b ≠ q.1)
    (htl : ∀ q ∈ tl, b ≠ q.1) (hr : ∀ q ∈ rest, b ≠ q.1) (ho : ∀ q ∈ own, q.1 ≠ b) : ∀ p ∈ df :: P :: D :: ln :: lc :: fc :: (tC ++ (tR ++ (tl ++ (rest ++ own)))), p.1 ≠ b := by
  intro p hp
  simp only [List.mem_cons, List.mem_append] at hp
  rcases hp with h | h | h | h | h | h | h | h | h | h | h
  · rw [h]; exact h0
  · rw [h]; exact hP
  · rw [h]; exact hD
  · rw [h]; exact h1
  · rw [h]; exact h2
  · rw [h]; exact h3
  · exact (hC p h).symm
  · exact (hR p h).symm
  · exact (htl p h).symm
  · exact (hr p h).symm
  · exact ho p h
theorem turn2 {r k : Int} {i : Nat} (h0 : 0 ≤ r) (h1 : r < 2) (hi : i < ((1 + r) - 0).toNat) (hk : k = 0 + (i : Int) * 1) : i ≤ 1 ∧ k = (i : Int) := by
  rw [Int.zero_add, Int.mul_one] at hk
  have : i < 2 := Nat.lt_of_lt_of_le hi (by rw [Int.sub_zero]; exact Int.toNat_le.mpr (by omega))
  exact ⟨Nat.le_of_lt_succ this, hk⟩
theorem turnN {k : Int} {i r n v : Nat} (hi : i < ((r : Int) - 0).toNat) (hk : k = 0 + (i : Int) * 1) (hr : r = n) (hv : v = n) (h5 : v ≤ 5) : k.toNat = i ∧ k = (i : Int) ∧ i ≤ 9 ∧ i < v := by
  rw [Int.zero_add, Int.mul_one] at hk
  rw [Int.sub_zero, Int.toNat_natCast] at hi
  subst hk; subst hr; subst hv
  exact ⟨Int.toNat_natCast i, rfl, Nat.le_trans (Nat.le_of_lt hi) (Nat.le_trans h5 (by decide)), hi⟩
theorem led_sub {df dx ls px ln lc fc A P D : Addr × Obj} {tC tR tl rest own : List (Addr × Obj)} : ∀ p ∈ df :: dx :: ls :: px :: ln :: lc :: fc :: (A :: P :: D :: (tC ++ (tR ++ (tl ++ rest)))), p ∈ dx :: ls :: px :: A :: df :: P :: D :: ln :: lc :: fc :: (tC ++ (tR ++ (tl ++ (rest ++ own)))) := by
  exact all_cons (at_n 4 rfl) (all_cons (at_n 0 rfl) (all_cons (at_n 1 rfl) (all_cons (at_n 2 rfl) (all_cons (at_n 7 rfl) (all_cons (at_n 8 rfl) (all_cons (at_n 9 rfl) (all_cons (at_n 3 rfl) (all_cons (at_n 5 rfl) (all_cons (at_n 6 rfl)
    fun p hp => List.mem_append_right [dx, ls, px, A, df, P, D, ln, lc, fc] (show p ∈ tC ++ (tR ++ (tl ++ (rest ++ own))) by simpa only [List.append_assoc] using List.mem_append_left own hp))))))))))
theorem own_sub {df dx ls px ln lc fc A P D : Addr × Obj} {tC tR tl rest own : List (Addr × Obj)} : ∀ p ∈ own, p ∈ dx :: ls :: px :: A :: df :: P :: D :: ln :: lc :: fc :: (tC ++ (tR ++ (tl ++ (rest ++ own)))) := by
  intro p hp
  simp only [List.mem_cons, List.mem_append]
  simp only [hp, or_true]
theorem own_all {df dx ls px ln lc fc A P D : Addr × Obj} {tC tR tl rest own : List (Addr × Obj)} (ho : ∀ q ∈ own, ∀ b ∈ (df :: dx :: ls :: px :: ln :: lc :: fc :: rest).map (·.1), q.1 ≠ b)
    (hA : ∀ q ∈ own, q.1 ≠ A.1) (hP : ∀ q ∈ own, q.1 ≠ P.1) (hD : ∀ q ∈ own, q.1 ≠ D.1) (hC : ∀ q ∈ own, ∀ p ∈ tC, q.1 ≠ p.1) (hR : ∀ q ∈ own, ∀ p ∈ tR, q.1 ≠ p.1) (htl : ∀ q ∈ own, ∀ p ∈ tl, q.1 ≠ p.1) :
    OwnOff own ((df :: dx :: ls :: px :: ln :: lc :: fc :: (A :: P :: D :: (tC ++ (tR ++ (tl ++ rest))))).map (·.1)) := by
  intro q hq b hb
  obtain ⟨p, hp, rfl⟩ := List.mem_map.mp hb
  have key : ∀ p, p ∈ df :: dx :: ls :: px :: ln :: lc :: fc :: rest → q.1 ≠ p.1 := fun p hp => ho q hq _ (List.mem_map.mpr ⟨p, hp, rfl⟩)
  exact all_cons (P := fun p => q.1 ≠ p.1) (key _ (at_n 0 rfl)) (all_cons (key _ (at_n 1 rfl)) (all_cons (key _ (at_n 2 rfl)) (all_cons (key _ (at_n 3 rfl)) (all_cons (key _ (at_n 4 rfl)) (all_cons (key _ (at_n 5 rfl)) (all_cons (key _ (at_n 6 rfl))
    (all_cons (hA q hq) (all_cons (hP q hq) (all_cons (hD q hq) (all_app (hC q hq) (all_app (hR q hq) (all_app (htl q hq) fun p h => key p (List.mem_append_right [df, dx, ls, px, ln, lc, fc] h))))))))))))) p hp
theorem sep_all {base : List Addr} {A P D : Addr × Obj} {tC tR tl rest : List (Addr × Obj)} (hA : ∀ b ∈ base, b ≠ A.1) (hP : ∀ b ∈ base, b ≠ P.1) (hD : ∀ b ∈ base, b ≠ D.1) (hC : ∀ b ∈ base, ∀ p ∈ tC, b ≠ p.1) (hR : ∀ b ∈ base, ∀ p ∈ tR, b ≠ p.1) (htl : ∀ b ∈ base, ∀ p ∈ tl, b ≠ p.1) (hr : ∀ b ∈ base, ∀ p ∈ rest, b ≠ p.1) :
    ∀ b ∈ base, ∀ q ∈ A :: P :: D :: (tC ++ (tR ++ (tl ++ rest))), b ≠ q.1 := by
  intro b hb q hq
  simp only [List.mem_cons, List.mem_append] at hq
  rcases hq with h | h | h | h | h | h | h
  · rw [h]; exact hA b hb
  · rw [h]; exact hP b hb
  · rw [h]; exact hD b hb
  · exact hC b hb q h
  · exact hR b hb q h
  · exact htl b hb q h
  · exact hr b hb q h
theorem base3 {df dx ls : Addr} {C : Addr → Prop} (h1 : C df) (h2 : C dx) (h3 : C ls) : ∀ b ∈ [df, dx, ls], C b := by
  intro b hb
  simp only [List.mem_cons, List.not_mem_nil, or_false] at hb
  rcases hb with rfl | rfl | rfl
  · exact h1
  · exact h2
  · exact h3
section
theorem o3_1 {a b c d : Nat} {R : Prop} (h : (a ≠ b ∧ a ≠ c ∧ a ≠ d) ∧ R) : b ≠ a := h.1.1.symm
theorem o3_2 {a b c d : Nat} {R : Prop} (h : (a ≠ b ∧ a ≠ c ∧ a ≠ d) ∧ R) : c ≠ a := h.1.2.1.symm
theorem o3_3 {a b c d : Nat} {R : Prop} (h : (a ≠ b ∧ a ≠ c ∧ a ≠ d) ∧ R) : d ≠ a := h.1.2.2.symm
local macro_rules | `(tactic| k_ne) => `(tactic| (refine neN ?_; (try dsimp only); first | exact o3_1 (by with_reducible assumption) | exact o3_2 (by with_reducible assumption) | exact o3_3 (by with_reducible assumption)))
local macro_rules | `(tactic| walk_at "call type:range") => wr "call _ [ _ ]" "range1_rows"
local macro_rules | `(tactic| ktr_room) => `(tactic| decide +kernel)
local macro_rules | `(tactic| ktr_units) => `(tactic| decide +kernel)
local macro_rules | `(tactic| walk_at "call ref") => wl "call ( Value.ref 267 ) _" "pick_spec" "kB kF kX kN kT kK kne kl kf kI kn k0 k1 kw kd ku _" "kB:a kF:a kX:a kN:a kT:a kK:x kf:w|s kne:w|A kl:w|m kI:w kn:w k0:o k1:o kw:o kd:r ku:n" "r' t' h' tk' o' t3' F' N' hf' hr0' hr1'" 1
local macro_rules | `(tactic| walk_at "call ref") => wl "call ( Value.ref 267 ) _" "pick_at3" "kB kF kX kN kT kK g1 g2 g3 kne kf kl kI kn k0 k1 kw kd ku _" "kB:a kF:a kX:a kN:w kT:a kK:x g1:N g2:N g3:N kf:w kne:w kl:m kI:w kn:w k0:o k1:o kw:o kd:r ku:n" "r' t' h' tk' o' t3' F' N' hf' hr0' hr1'" 1
local macro_rules | `(tactic| kbt_split) => wk ["exec ( PySem.Stmt.While _ _ _ _ ) _", "exec ( PySem.Stmt.For _ _ _ _ _ ) _", "eval ( PySem.Expr.ListComp _ _ _ _ ) _", "pyIter ( Value.ref _ )", "call ( Value.type 'tuple ) [ ( Value.ref _ ) ]", "call ( Value.ref 227 ) _", "call ( Value.ref 239 ) _", "call ( Value.ref 156 ) _", "call ( Value.ref 281 ) _", "call ( Value.ref 295 ) _", "call ( Value.ref 300 ) _", "call ( Value.ref 246 ) _", "call ( Value.ref 253 ) _", "call ( Value.builtin 'str.split ) _", "compareOp CmpOp.NotEq ( Value.ref _ ) ( Value.ref _ )", "LCg.FinE _ _ _ _ _ _ _", "LCg.CompEnd _ _ _ _ _ _ _ _ _ _ _ _ _ _"]
local macro_rules | `(tactic| kct_strs) => ws
local macro_rules | `(tactic| walk_at "call type:tuple") => wl "call ( Value.type _ ) [ ( Value.ref _ ) ]" "m_tupleL" "k1 k2 k3 k4 _" "k1:a k2:s k3:List.Mem.head/_ k4:c" "D' h' F' N' l1" 0
local macro_rules | `(tactic| walk_at "subscriptTail") => wl "subscriptTail _ _ ( Value.ref _ ) ( Value.int _ _ )" "clauses_sub" "k1 k2 k3 k4 k5 k6 _ k7" "k1:a k2:w k3:w k4:w k5:o k6:o k7:u" "c' n' cvs' ns' hc' hI' hcl'" 0
local macro_rules | `(tactic| walk_at "subscriptTail") => wl "subscriptTail _ _ ( Value.ref _ ) ( Value.int _ _ )" "rules_sub" "k1 k2 k3 k4 k5 k6 _ k7" "k1:a k2:w k3:w k4:w k5:o k6:o k7:u" "x' t' hx'" 0
local macro_rules | `(tactic| walk_at "call builtin:len") => wl "call ( Value.builtin 'len ) [ ( Value.ref _ ) ]" "m_len" "k1 k2 k3 _" "k1:a k2:m k3:o" "" 0
local macro_rules | `(tactic| walk_at "call ref") => wl "call ( Value.ref 135 ) _" "size_spec" "kZ kP kD kL kB kF kX kN kT kK kd ku _" "kB:a kF:a kX:a kN:a kT:a kK:x kP:mAt1/ kD:mAt2/ kL:mAt3/ kZ:o kd:r ku:n" "t' h' tk' F' N'" 1
local macro_rules | `(tactic| walk_at "subscriptTail") => wl "subscriptTail _ _ ( Value.ref _ ) ( Value.int _ _ )" "tx_at" "k1 k2 k3 k4 k5 k6 _ k7" "k1:a k2:List.Mem.head/_ k3:w k4:o k5:o k6:w|x k7:u" "t'" 0
local macro_rules | `(tactic| walk_at "subscriptTail") => wl "subscriptTail _ _ ( Value.ref _ ) ( Value.int _ _ )" "m_stepAt" "k1 k2 k3 k4 k5 k6 _ k7" "k1:a k2:mAt3/ k3:w k4:o k5:o k6:o k7:u" "a' d' hd' hst'" 0
local macro_rules | `(tactic| k_in) => `(tactic| exact Frag.In.keeps (by k_asm) (Fr.keep (by k_asm)))
local macro_rules | `(tactic| walk_at "compareOp NotEq int int") => `(tactic| (k_here; refine' m_neI ?k1 ?_; (case k1 => omega); k_whole))
local macro_rules | `(tactic| walk_at "compareOp NotEq str str") => `(tactic| (k_here; first | (refine' m_neF rfl (head_eq ?k1) rfl ?_; (case k1 => omega); k_whole) | (refine' m_neF rfl rfl rfl ?_; k_whole)))
set_option maxHeartbeats 8000000 in
theorem lawT : PySem.Challenge.rw_sj0098_01.Holds := by
  refine Mine.hd ?_
  w_strict (
    k_go0
    (all_goals try k_fold)
    kbt_split
    (rename News _ _ _ _ => N9)
    (rename Fr _ _ _ _ => F9)
    (rename IntsAre _ (List.take _ _) => hI9)
    (rename Obj.IsDictOf _ _ (strPairs _) => hf9)
    (rename _ = Data.cell (some _) => hc9)
    (rename World => w)
    obtain ⟨ln, ls, px, dx, lc, df, ws, cc, oc, o9, t1, t2, t3, te, tn, ⟨e1, e2, e3, e4, e5, e6, e7, e8, e9, e10⟩, f1, f2, f3, f4, f5, N8⟩ := law_names N9
    subst e1 e2 e3 e4 e5 e6 e7 e8 e9 e10
    rw [← f1, ← f2, ← f3, ← f4, ← f5] at N8
    clear N9 f1 f2 f3 f4 f5
    have hf : FeedIs _ _ lc 0 _ := hf9
    have hn9 := hI9.length
    rw [List.length_take] at hn9
    have hw9 : _ ≤ 60 := hn9 ▸ Nat.min_le_left 60 _
    (with_unfolding_all refine' For_invVF F9 ?ka1 ?kb1 ?_; (case ka1 => exact rfl); (case kb1 => exact rfl); k_whole)
    kbt_split
    (rename IsRange _ _ _ _ _ _ _ _ => hR)
    (rename Fr _ _ _ _ => F9)
    (rename News _ _ _ _ => N9)
    (rename FeedIs _ _ _ _ _ => f9)
    refine' m_rangeS (σ := LS) (lawLed w df dx ls px ln lc _ oc ws cc tn t1 t2 t3) (fun _ => []) [Str.ofString "note", Str.ofString "premises"] (LSOk w lc [df, dx, ls]) ⟨_, _, _, [], 0, [], -1, te, []⟩ rfl hR (small_one (by omega) (by omega) (by omega) (by omega)) (rangeSize_nat _ _) F9 N9 (fun _ h => h) (fun _ h => nomatch h) ⟨f9, by show (0 : Int) ≤ 0 + 1; decide, by show (0 : Int) + 1 ≤ 1 + 60 * ((0 : Nat) : Int); decide, .nil, rfl, fun _ h => (nomatch h), fun _ _ _ h => (nomatch h)⟩ ?_ ?_
    · intro i k t c u h tk own hi hki hoff hP F1 N1
      obtain ⟨o1, at1, tt1, vs, sn, sts, e1, te1, rest⟩ := c
      obtain ⟨hf1, hlo, hhi, hst, hln, hok, hsep⟩ := hP
      dsimp only at hf1 hlo hhi hst hln hok hsep
      obtain ⟨hi1, hk'⟩ := turn2 (by assumption) (by assumption) hi hki
      clear hi hki
      have N2 : News _ _ _ ((df, o1) :: (dx, (W.dictOf [{ hash := PyData.keyHash w.params (Str.ofString "steps"), key := .str (Str.ofString "steps") t1, val := .ref ls }, { hash := PyData.keyHash w.params (Str.ofString "named"), key := .str (Str.ofString "named") t2, val := .ref ln }, { hash := PyData.keyHash w.params (Str.ofString "empty"), key := .str (Str.ofString "empty") t3, val := .int e1 te1 }] 3)) :: (ls, W.listOf vs.toArray sn) :: (px, instObj 220 dx) :: (ln, W.listOf #[Value.int 0 tn] 0) :: (lc, W.listOf ws.toArray cc) :: (_, oc) :: (rest ++ own)) := N1
      dsimp only [kstB] at F1
      clear F9 N9 N8 N1 f9 hf hR
      kbt_split
      k_dflt (refine' lnote_spec ?kB ?kF ?kX ?kN ?kT ?kK ?kne ?kl ?kf ?kI ?kn ?k0 ?k1 ?kd ?ku ?_; (case kN => exact N2); (case kB => k_asm); (case kF => k_asm); (case kX => k_asm); (case kT => k_asm); (case kK => exact rfl); (case kf => exact hf1); (case kne => exact off7 (by k_ne) (by k_ne) (by k_ne) (by k_ne) (by k_ne) (by k_ne) (fun q hq e => hsep df (.head _) q hq e.symm) (fun q hq => hoff q hq df (.head _))); (case kl => k_mem); (case kI => exact hI9); (case kn => exact hw9); (case k0 => omega); (case k1 => omega); (case kd => ktr_room); (case ku => ktr_units); k_whole)
      intro nv tl nd o2 at2 t9 h9 tk9 hnv hnok hnlen F2 N3 htl hf2 hlo2 hhi2
      have N4 := pull6 N3
      obtain ⟨fc, hfc, _⟩ := name_head (fun p hp => N4 p (.tail _ (.tail _ (.tail _ (.tail _ (.tail _ (.tail _ hp)))))) : News _ _ _ ((_, oc) :: (tl ++ (rest ++ own))))
      have hall9 : ∀ p ∈ (dx, (W.dictOf [{ hash := PyData.keyHash w.params (Str.ofString "steps"), key := .str (Str.ofString "steps") t1, val := .ref ls }, { hash := PyData.keyHash w.params (Str.ofString "named"), key := .str (Str.ofString "named") t2, val := .ref ln }, { hash := PyData.keyHash w.params (Str.ofString "empty"), key := .str (Str.ofString "empty") t3, val := .int e1 te1 }] 3)) :: (ls, W.listOf vs.toArray sn) :: (px, instObj 220 dx) :: (ln, W.listOf #[Value.int 0 tn] 0) :: (lc, W.listOf ws.toArray cc) :: (fc, oc) :: (tl ++ (rest ++ own)), p.1 ≠ df :=
        off7 (by k_ne) (by k_ne) (by k_ne) (by k_ne) (by k_ne) (by show fc ≠ df; rw [hfc]; k_ne) (fun q hq e => htl (df, o2) (.head _) q hq e.symm) (fun q hq => by
          rcases List.mem_append.mp hq with hq | hq
          · exact fun e => hsep df (.head _) q hq e.symm
          · exact hoff q hq df (.head _))
      rw [hfc] at hall9
      clear N3 N2
      kbt_split
      refine comp_mono i (by k_asm) (by k_asm) hf2 ?_ ?_
      · have hi2 : i = 0 ∨ i = 1 := by omega
        rcases hi2 with rfl | rfl
        · have hk0 : k = 0 := by omega
          subst hk0
          k_dflt (refine LCt.ListComp_T (F₀ := by k_asm) (by with_unfolding_all rfl) (by decide) (by rfl) (by decide) (by rfl) ?_)
          kbt_split
          unfold LCg.FinE
          intro D5 h5 tk5 F5 N5 off5
          exact ⟨D5, [], [], _, _, _, _, h5, tk5, rfl, rfl, F5, swap2 N5, off1_mem off5, .nil, fun _ h => (nomatch h), Nat.zero_le _, hf2, Int.le_refl _, by omega⟩
        · have hk1 : k = 1 := by omega
          subst hk1
          k_dflt (refine LCt.ListComp_T (F₀ := by k_asm) (by with_unfolding_all rfl) (by decide) (by rfl) (by decide) (by rfl) ?_)
          kbt_split
          · (rename FeedIs _ _ _ _ _ => f5)
            refine LCg.CompEnd.intro (by k_asm) (by assumption) ((df, _) :: _) (fun _ h => h) (by assumption) trivial (LCt.CompRestT.zero fun D5 h5 tk5 F5 N5 off5 => ?_)
            exact ⟨D5, [_], [_], _, _, _, _, h5, tk5, rfl, rfl, F5, swap2 N5, off1_mem off5, .cons _ _ .nil, fun k hk => by rw [List.mem_singleton.mp hk]; decide, Nat.le_refl _, f5, by omega, by omega⟩
          · (rename FeedIs _ _ _ _ _ => f5)
            refine LCg.CompEnd.intro (by k_asm) (by assumption) ((df, _) :: _) (fun _ h => h) (by assumption) trivial (LCt.CompRestT.zero fun D5 h5 tk5 F5 N5 off5 => ?_)
            exact ⟨D5, [], [], _, _, _, _, h5, tk5, rfl, rfl, F5, swap2 N5, off1_mem off5, .nil, fun _ h => (nomatch h), Nat.zero_le _, f5, by omega, by omega⟩
      · intro D3 ks ys n3 o3 at3 t13 h3 tk3 F3 N3 hD3 hI3 hks hkl hf3 hlo3 hhi3
        have hyl := hI3.length
        have hne3 := off_cons (x := (D3, W.listOf ys.toArray n3)) (fun e => hD3 (df, o3) (.head _) e.symm) hall9
        (try clear N4)
        dsimp only
        kbt_split
        k_dflt (refine' tup_df ?k1 ?k2 ?k3 ?k4 ?_; (case k1 => exact F3); (case k2 => exact N3); (case k3 => exact List.Mem.head _); (case k4 => omega); k_whole)
        intro P h4 F4 N4 lP
        have hne4 := off_cons (x := (P, ({ cls := .type "tuple", data := .seq ys.toArray } : Obj))) (Nat.ne_of_gt (lP (df, o3) (.head _))) hne3
        (try clear N3); (try clear F3)
        dsimp only
        kbt_split
        k_dflt (refine' rules_spec ?kB ?kF ?kX ?kN ?kT ?kK ?kd ?ku ?_; (case kB => k_asm); (case kF => k_asm); (case kX => k_asm); (case kN => k_asm); (case kT => k_asm); (case kK => exact rfl); (case kd => ktr_room); (case ku => ktr_units); k_whole)
        intro tR R rvs rn h5 tk5 F5 N5r aR mR rR lR
        have N5 := sink8 N5r
        have hne5 := sink8_off (off_tl hne4 aR)
        have hlc5 := mem_lc N5
        (try clear N4); (try clear F4); (try clear N5r)
        dsimp only
        kbt_split
        k_dflt (refine' clauses_spec ?kB ?kF ?kX ?kN ?kT ?kK ?kd ?ku ?_; (case kB => k_asm); (case kF => k_asm); (case kX => k_asm); (case kN => k_asm); (case kT => k_asm); (case kK => exact rfl); (case kd => ktr_room); (case ku => ktr_units); k_whole)
        intro tC C cvs cn h6 tk6 F6 N6r aC mC rC lC
        have N6 := sink8 N6r
        have hne6 := sink8_off (off_tl hne5 aC)
        have hlc6 := mem_lc N6
        (try clear N5); (try clear F5); (try clear N6r)
        dsimp only
        kbt_split
        k_dflt (refine' add_spec ?kB ?kF ?kX ?kN ?kT ?kK ?d1 ?d2 ?d3 ?dx ?dl ?hx ?hc ?hcI ?hcl ?hp ?hpI ?hks ?hpl ?hvl ?kd ?ku ?_; (case kN => exact pull_add (by k_asm)); (case kB => k_asm); (case kF => k_asm); (case kX => k_asm); (case kT => k_asm); (case kK => exact rfl); (case d1 => k_ne); (case d2 => k_ne); (case d3 => k_ne); (case dx => exact off_all (by k_ne) (Nat.ne_of_gt (lP (dx, _) mAt2)) (hD3 (dx, _) mAt1).symm (by k_ne) (by k_ne) (by k_ne) (aC (dx, _) mAt3) (aR (dx, _) mAt3) (htl (dx, _) mAt1) (hsep dx mAt1) (fun q hq => hoff q hq dx mAt1)); (case dl => exact off_all (by k_ne) (Nat.ne_of_gt (lP (ls, _) mAt3)) (hD3 (ls, _) mAt2).symm (by k_ne) (by k_ne) (by k_ne) (aC (ls, _) mAt4) (aR (ls, _) mAt4) (htl (ls, _) mAt2) (hsep ls mAt2) (fun q hq => hoff q hq ls mAt2)); (case hx => with_reducible assumption); (case hc => exact mIn6 (by with_reducible assumption)); (case hcI => with_reducible assumption); (case hcl => with_reducible assumption); (case hp => exact mAt1); (case hpI => exact hI3); (case hks => exact hln ▸ hks); (case hpl => exact hkl); (case hvl => omega); (case kd => ktr_room); (case ku => ktr_units); k_whole)
        intro A ta e9 te9 h9 tk9 F9 N9 nA1 nA2 nA3 nA4
        (try clear N6); (try clear F6)
        dsimp only
        kbt_split
        (rename FeedIs _ _ _ _ _ => f9)
        (rename _ ∈ RL => hx9)
        (rename _ ∈ CL => hcl9)
        obtain ⟨x9, ex9, _⟩ := nm_rule hx9
        subst ex9
        obtain ⟨ns9, ens9, _⟩ := nm_clause hcl9
        subst ens9
        have q1 : ∀ q ∈ own, q.1 ≠ A := fun q hq => nA4 q (by repeat' first | exact hq | apply List.mem_append_right | apply List.Mem.tail)
        have q2 : ∀ q ∈ own, q.1 ≠ P := fun q hq => Nat.ne_of_lt (lP q (by repeat' first | exact hq | apply List.mem_append_right | apply List.Mem.tail))
        have q3 : ∀ q ∈ own, q.1 ≠ D3 := fun q hq => hD3 q (by repeat' first | exact hq | apply List.mem_append_right | apply List.Mem.tail)
        have q4 : ∀ q ∈ own, ∀ p ∈ tC, q.1 ≠ p.1 := fun q hq => aC q (by repeat' first | exact hq | apply List.mem_append_right | apply List.Mem.tail)
        have q5 : ∀ q ∈ own, ∀ p ∈ tR, q.1 ≠ p.1 := fun q hq => aR q (by repeat' first | exact hq | apply List.mem_append_right | apply List.Mem.tail)
        have q6 : ∀ q ∈ own, ∀ p ∈ tl, q.1 ≠ p.1 := fun q hq => htl q (by repeat' first | exact hq | apply List.mem_append_right | apply List.Mem.tail)
        refine' m_endS ⟨_, _, _, vs ++ [.ref A], sn + 1, sts ++ [⟨x9, ns9, ks, nd⟩], e9, te9, (A, _) :: (P, _) :: (D3, _) :: (tC ++ (tR ++ (tl ++ rest)))⟩ (by k_asm) N9 led_sub own_sub (own_all (fun q hq b hb => hoff q hq b hb) q1 q2 q3 q4 q5 q6) (fun _ h => nomatch h) ?_ ⟨f9, ?_, ?_, ?_, ?_, ?_, ?_⟩
        · kst_same
        · dsimp only; omega
        · dsimp only; omega
        · refine paired_snoc ⟨A, _, P, _, nv, _, _, _, _, rfl, .head _, .tail _ (.tail _ (.tail _ (List.mem_append_left _ (by with_reducible assumption)))), by with_reducible assumption, .tail _ (.head _), hI3, hnv.mono fun p hp => ?_⟩ (paired_mono (fun v d h => h.mono fun p hp => ?_) hst)
          · exact .tail _ (.tail _ (.tail _ (List.mem_append_right _ (List.mem_append_right _ (List.mem_append_left _ hp)))))
          · exact .tail _ (.tail _ (.tail _ (List.mem_append_right _ (List.mem_append_right _ (List.mem_append_right _ hp)))))
        · dsimp only; rw [List.length_append, hln]; rfl
        · intro d hd
          rcases List.mem_append.mp hd with hd | hd
          · exact hok d hd
          · rw [List.mem_singleton.mp hd]
            exact ⟨by with_reducible assumption, by with_reducible assumption, ⟨hkl, fun k hk => by have := hks k hk; omega⟩, hnok, hnlen⟩
        · exact sep_all (base3 (nA4 (df, _) (.head _)) nA1 nA2) (base3 (Nat.ne_of_lt (lP (df, _) (.head _))) (Nat.ne_of_lt (lP (dx, _) mAt2)) (Nat.ne_of_lt (lP (ls, _) mAt3))) (base3 (hD3 (df, _) (.head _)) (hD3 (dx, _) mAt1) (hD3 (ls, _) mAt2)) (base3 (aC (df, _) (.head _)) (aC (dx, _) mAt3) (aC (ls, _) mAt4)) (base3 (aR (df, _) (.head _)) (aR (dx, _) mAt3) (aR (ls, _) mAt4)) (base3 (htl (df, _) (.head _)) (htl (dx, _) mAt1) (htl (ls, _) mAt2)) hsep
    · --DONE
      intro d u h tk hP F1 N1
      obtain ⟨o1, at1, tt1, vs, sn, sts, e1, te1, rest⟩ := d
      obtain ⟨hf1, hlo, hhi, hst, hln, hok, hsep⟩ := hP
      dsimp only at hf1 hlo hhi hst hln hok hsep
      have N2 : News _ _ _ ((df, o1) :: (dx, (W.dictOf [{ hash := PyData.keyHash w.params (Str.ofString "steps"), key := .str (Str.ofString "steps") t1, val := .ref ls }, { hash := PyData.keyHash w.params (Str.ofString "named"), key := .str (Str.ofString "named") t2, val := .ref ln }, { hash := PyData.keyHash w.params (Str.ofString "empty"), key := .str (Str.ofString "empty") t3, val := .int e1 te1 }] 3)) :: (ls, W.listOf vs.toArray sn) :: (px, instObj 220 dx) :: (ln, W.listOf #[Value.int 0 tn] 0) :: (lc, W.listOf ws.toArray cc) :: (_, oc) :: rest) := N1
      have N3 := pull_pt N2
      have hst2 := st_in4 N3 hst
      have hsl := paired_len hst
      have hv5 : vs.length ≤ 5 := by omega
      have hsum := rows_sum hok (hsl ▸ hv5)
      have hrl := rows_len sts
      dsimp only [kstB] at F1
      clear F9 N9 N8 N1 N2 f9 hf hR
      kbt_split
      k_dflt (refine' pt_spec ?kB ?kF ?kX ?kN ?kT ?kK ?kP ?kO ?kV ?kd ?ku ?_; (case kN => exact N3); (case kB => k_asm); (case kF => k_asm); (case kX => k_asm); (case kT => k_asm); (case kK => exact rfl); (case kP => exact hst2); (case kO => exact hok); (case kV => exact hv5); (case kd => ktr_room); (case ku => ktr_units); k_whole)
      intro tt h4 tk4 F4 N4
      dsimp only
      kbt_split
      have hjb := joinL_bound [10] (rowsOf sts)
      rw [List.length_singleton, Nat.one_mul] at hjb
      k_dflt (refine' m_split (pre := []) (μ := 10) (post := []) (ws := rowsOf sts) ?k1 ?k2 ?k3 ?k4 ?k5 ?k6 ?k7 ?k8 ?k9 ?_; (case k1 => k_asm); (case k2 => k_asm); (case k3 => rfl); (case k4 => decide); (case k5 => decide); (case k6 => decide); (case k7 => exact fun e => by rw [e, List.length_nil] at hrl; omega); (case k8 => exact end_rows hok); (case k9 => (show (joinL [10] _).length + 2 ≤ 16777216; omega)); k_whole)
      intro RW rvs h5 tk5 hT F5 N5 lRW
      have hrv := hT.length.trans hrl
      have hsm : rvs.length < 2 ^ 62 := by rw [hrv, ← hsl]; exact Nat.lt_of_le_of_lt hv5 (by decide)
      (try clear N4); (try clear F4)
      dsimp only
      kbt_split
      (rename Fr _ _ _ _ => F9)
      (with_unfolding_all refine' For_invVF F9 ?ka3 ?kb3 ?_; (case ka3 => exact rfl); (case kb3 => exact rfl); k_whole)
      kbt_split
      (rename IsRange _ _ _ _ _ _ _ _ => hR)
      (rename Fr _ _ _ _ => F9)
      (rename News _ _ _ _ => N9)
      refine' m_rangeS (σ := Unit) (fun _ => (RW, W.listOf rvs.toArray 0) :: (px, instObj 220 dx) :: (dx, (W.dictOf [{ hash := PyData.keyHash w.params (Str.ofString "steps"), key := .str (Str.ofString "steps") t1, val := .ref ls }, { hash := PyData.keyHash w.params (Str.ofString "named"), key := .str (Str.ofString "named") t2, val := .ref ln }, { hash := PyData.keyHash w.params (Str.ofString "empty"), key := .str (Str.ofString "empty") t3, val := .int e1 te1 }] 3)) :: (ls, W.listOf vs.toArray sn) :: (ln, W.listOf #[Value.int 0 tn] 0) :: (df, o1) :: (lc, W.listOf ws.toArray cc) :: (_, oc) :: rest) (fun _ => []) [Str.ofString "rule", Str.ofString "clause", Str.ofString "premises", Str.ofString "note", Str.ofString "parts"] (fun _ _ => True) () rfl hR (small_nat hsm) (rangeSize_nat _ _) F9 N9 (fun _ h => h) (fun _ h => nomatch h) trivial ?_ ?_
      · intro i k t d u h tk own hi hki hoff hP F1 N1
        obtain ⟨hk9, hk', hi9, hkv⟩ := turnN hi hki hrv hsl hv5
        clear hi hki
        have N2 := end_own N1
        have hoff2 := hoff
        dsimp only [kstB] at F1
        clear F9 N9 hR N1; (try clear N5)
        kbt_split
        (rename StIn _ _ _ => hst9)
        (rename sts[(_ : Nat)]? = some _ => hd9)
        obtain ⟨d9, ed9, _⟩ := nm_step hd9
        subst ed9
        obtain ⟨a9, c9, p9, tt9, nv9, n2, n3, cvs, pvs, e9, m1, m2, i2, m3, i3, hnt⟩ := hst9
        injection e9 with e9
        subst e9
        have hrow : (rowsOf sts)[k.toNat]? = some (rowOf i d9) := by rw [hk9] at hd9 ⊢; exact rows_at hd9
        have ok9 := hok _ (List.mem_of_getElem? hd9)
        have hsub := sub_end N2
        replace m1 := hsub _ m1
        replace m2 := hsub _ m2
        replace m3 := hsub _ m3
        replace hnt := hnt.mono hsub
        have hxl := rule_len ok9.rule
        have hl2 := row_short' (cl_nine ok9.clause) (Nat.le_trans (CL_len ok9.clause) (by decide))
        have hl3 := row_short' (pr_nine ok9.prem.2) (Nat.le_trans ok9.prem.1 (by decide))
        have hl4 := ok9.short
        have hrl9 := row_len (k := i) hi9 ok9 hl2 hl3
        clear hsub hst hst2
        kbt_split
        k_dflt (refine' m_split (pre := [32]) (μ := 124) (post := [32]) (ws := partsOf i d9) ?k1 ?k2 ?k3 ?k4 ?k5 ?k6 ?k7 ?k8 ?k9 ?_; (case k1 => k_asm); (case k2 => k_asm); (case k3 => exact congrArg tx (parts_row i d9).symm); (case k4 => decide); (case k5 => decide); (case k6 => decide); (case k7 => exact parts_ne); (case k8 => exact bar_parts ok9); (case k9 => rw [show joinL ([32] ++ 124 :: [32]) (partsOf i d9) = rowOf i d9 from parts_row i d9]; omega); k_whole)
        intro PT pvv h6 tk6 hT6 F6 N6 lPT
        have hpv : pvv.length = 4 := hT6.length
        have hkt := key_short (show -9 ≤ k by omega) (show k ≤ 9 by omega)
        have z1 : -9 ≤ k := by omega
        have z2 : k ≤ 9 := by omega
        have w0 : (PySem.Str.ofString "step ").length = 5 := by decide
        have w2 : (PySem.Str.ofString " ").length = 1 := by decide
        have hnt6 := dat_up N6 hnt
        have m26 := mem_up N6 m2
        have m36 := mem_up N6 m3
        (try clear N2)
        dsimp only
        kbt_split
        k_dflt (refine' note_spec 51 ?kB ?kF ?kX ?kN ?kT ?kK hnt6 ok9.note ?kZ ?kd ?ku ?_; (case kB => k_asm); (case kF => k_asm); (case kX => k_asm); (case kN => k_asm); (case kT => k_asm); (case kK => exact rfl); (case kZ => omega); (case kd => ktr_room); (case ku => ktr_units); k_whole)
        intro t7 h7 tk7 F7 N7 _
        (try clear N6); (try clear F6)
        dsimp only
        kbt_split
        k_dflt (refine' nums_spec ?kS ?kC ?kZ ?kB ?kF ?kX ?kN ?kT ?kK ?kd ?ku ?_; (case kS => exact small_of_nine (cl_nine ok9.clause)); (case kC => exact Nat.le_trans (CL_len ok9.clause) (by decide)); (case kZ => omega); (case kB => k_asm); (case kF => k_asm); (case kX => k_asm); (case kN => exact N7); (case kT => k_asm); (case kK => exact rfl); (case kd => ktr_room); (case ku => ktr_units); k_whole)
        intro v1 tl1 h8 tk8 hv1 F8 N8
        (try clear N7); (try clear F7)
        obtain ⟨av1, rfl⟩ := ref_tuple hv1
        (try dsimp only)
        kbt_split
        k_dflt (refine' ne_dat N8 hv1 (.tuple (List.mem_append_right _ m26) (dat_ints i2)) (kqd_ints _) ?ku ?_; (case ku => ke_room); k_whole)
        have N9 := drop_tl N8
        clear N8 hv1
        (try dsimp only)
        kbt_split
        k_dflt (refine' nums_spec ?kS ?kC ?kZ ?kB ?kF ?kX ?kN ?kT ?kK ?kd ?ku ?_; (case kS => exact small_of_nine (pr_nine ok9.prem.2)); (case kC => exact Nat.le_trans ok9.prem.1 (by decide)); (case kZ => omega); (case kB => k_asm); (case kF => k_asm); (case kX => k_asm); (case kN => exact N9); (case kT => k_asm); (case kK => exact rfl); (case kd => ktr_room); (case ku => ktr_units); k_whole)
        intro v2 tl2 h9 tk9 hv2 F9 N10
        (try clear N9); (try clear F8)
        obtain ⟨av2, rfl⟩ := ref_tuple hv2
        (try dsimp only)
        kbt_split
        k_dflt (refine' ne_dat N10 hv2 (.tuple (List.mem_append_right _ m36) (dat_ints i3)) (kqd_ints _) ?ku ?_; (case ku => ke_room); k_whole)
        have N11 := drop_tl N10
        clear N10 hv2
        (try dsimp only)
        kbt_split
        k_dflt (refine' things_spec (nd := 51) ok9.note ?kZ ?kB ?kF ?kX ?kN ?kT ?kK ?kd ?ku ?_; (case kZ => omega); (case kB => k_asm); (case kF => k_asm); (case kX => k_asm); (case kN => exact N11); (case kT => k_asm); (case kK => exact rfl); (case kd => ktr_room); (case ku => ktr_units); k_whole)
        intro v3 tl3 h10 tk10 hv3 F10 N12
        (try clear N11); (try clear F9)
        obtain ⟨av3, rfl⟩ := ref_list hv3
        (try dsimp only)
        kbt_split
        (rename News _ _ _ _ => N13)
        k_dflt (refine' ne_dat N13 (dat_up N13 hv3) (.list (vs := [nv9]) (.head _) (.cons ((dat_app (tl := tl3) hnt6).mono fun _ hp => .tail _ hp) .nil)) (kqd_list ok9.note) ?ku ?_; (case ku => ke_room); k_whole)
        have N14 := drop_end N13
        clear N13 hv3
        (try dsimp only)
        kbt_split
        refine' m_endS () (by k_asm) N14 (fun p hp => List.mem_append_left own hp) own_in hoff (fun _ h => nomatch h) ?_ trivial
        kst_same
      · intro d u h tk hP F1 N1
        dsimp only [kstB] at F1
        clear F9 N9 hR
        kbt_split)
end

end
end Mine
theorem PySem.Challenge.cw_sj0098_01_holds : PySem.Challenge.rw_sj0098_01.Holds :=
  Mine.lawT
