import PyProof.Rows.All
import Wide.All
import OpenK.AllK
import Wide.FinOn
import Lean
import PySem.Challenge.RW_xm0663_01
open PySem PySem.W PyProof.Rows
set_option Elab.async false
set_option maxRecDepth 100000
set_option maxHeartbeats 8000000
set_option linter.unusedVariables false
namespace Mine
section
noncomputable abbrev PR : Program := PySem.Challenge.rw_xm0663_01.row.prog
/-- the statements that the view keeps: all but the names of the modules -/
def keepS : List PySem.Stmt → List PySem.Stmt
  | [a0, _, a2, a3, a4, a5, _, a7, a8, _, a10, a11, a12, _, a14, a15, a16, a17, a18, a19, a20] => [a0, a2, a3, a4, a5, a7, a8, a10, a11, a12, a14, a15, a16, a17, a18, a19, a20]
  | _ => []
noncomputable def vwb : { b : List PySem.Stmt // keepS PR.main.body = b } := ⟨[_, _, _, _, _, _, _, _, _, _, _, _, _, _, _, _, _], by with_unfolding_all rfl⟩
noncomputable def vw : Program := { PR with main := { PR.main with body := vwb.1 } }
theorem hd_open : opening PR = plainProg PR.main.scope.names := by kernel_rfl
theorem hd_fence (s : Shared) : fenceModules? PR s = some s := by kernel_rfl
/-- the tree of a heap's objects -/
def hdTree (l : List Obj) : BT := (l.foldl (fun (x : BT × Nat) o => (x.1.ins x.2 o, x.2 + 1)) (BT.nil, 0)).1
def hdPos : Pos := { line := 0, col := 0, endLine := 0, endCol := 0 }
def hdAnn : Option Value := some (.ref 6)
noncomputable def hdBody : List PySem.Stmt := behindTheImports PR
noncomputable def hdEnv : Env := { scope := PR.main.scope, locals := mainNs, globals := mainNs, cells := [], code := .ref 13, frame := some 14 }
noncomputable def hdCode : Code := .body hdBody hdEnv
noncomputable def hdS0 (w : World) (os : OsState) : Shared := ⟨boot_heap w.params, Array.mk [], boot_drawn, boot_toks, os⟩
noncomputable def hdSA (w : World) (os : OsState) : Shared := match topGo treeTable PR w 11 hdAnn 12 (hdS0 w os) (topStub PR) with
  | some x => x.1
  | none => hdS0 w os
noncomputable def hdST (w : World) (os : OsState) : SharedT := ⟨hdTree (hdSA w os).heap.objs.toList, 15, (hdSA w os).heap.life, (hdSA w os).gens, (hdSA w os).drawn, (hdSA w os).toks, os⟩
theorem hd_size (w : World) : ((boot_heap w.params).isNs mainGlobals && (Array.mk [] : Array GenState).size == 0, (boot_heap w.params).objs.size, (boot_heap w.params).nsMap mainGlobals "__annotations__") = (true, 11, hdAnn) := by kernel_rfl
theorem hd_pre (w : World) (os : OsState) : topGo treeTable PR w 11 hdAnn 12 (hdS0 w os) (topStub PR) = some (hdSA w os, ⟨denote treeTable hdCode, hdCode, hdPos, [topFrame hdPos]⟩) := by kernel_rfl
theorem hd_block (w : World) (os : OsState) : segRun treeTable PR w 11 hdAnn 1 1 (hdSA w os) (blockOf hdBody hdEnv hdCode hdPos [topFrame hdPos]) = some (.next, (hdST w os).abs, hdCode, hdPos) := by kernel_rfl
/-- the left side: the top's statements over a heap that is a tree -/
def leftT (tb : String → Option Builtin) (seg : (String → Option Builtin) → Program → World → Nat → Option Value → Nat → Nat → SharedT → Thread → Option (Flow × SharedT × Code × Pos))
    (run : (String → Option Builtin) → Program → World → Nat → Option Value → Nat → Shared → Thread → Option Shared) {β : Type} (sees : Program → List Str → List Str → (Shared → Bool) → Bool → Shared → β) (good : β)
    (q : Program) (loose : List Str) (Xt : Shared → Bool) {α : Type} (Yf : Shared → α) (Ya : World → α) (g0 : Bool) : Prop :=
  ∀ (w : World) (os : OsState), ((seg tb PR w 11 hdAnn 1 2120 (hdST w os) (piecesOf hdBody hdEnv hdCode hdPos [topFrame hdPos])).bind fun r => match r.1 with
    | .next => (run tb PR w 11 hdAnn 2 r.2.1.abs ⟨doneF .next, hdCode, r.2.2.2, [topFrame hdPos]⟩).bind fun s₁ => match staticsOk (importedModules PR.main.body) (boot_heap w.params) s₁.heap && namesBound PR s₁.heap && gensDone s₁ && laidKept (boot_heap w.params) s₁.heap with
      | true => some (r.2.2.1, sees q loose (importedModules PR.main.body) Xt g0 s₁, Yf s₁)
      | false => none
    | _ => none) = some (hdCode, good, Ya w)
theorem left_tree {q : Program} {loose : List Str} {Xt : Shared → Bool} {α : Type} {Yf : Shared → α} {Ya : World → α} {N : Nat} {g0 : Bool} (hN : Nat.ble 2135 N = true)
    (h : leftT PySem.W.Fast.tw14364793385576792824 PySem.W.Fast.tw10110043849684766642 PySem.W.Fast.tw14082659384304107361 PySem.W.Fast.tw4187177175401517315 (openGood q loose) q loose Xt Yf Ya g0) : LeftO PR q loose Xt Yf Ya N g0 := by
  rw [← PySem.W.Fast.te14364793385576792824, ← PySem.W.Fast.te14082659384304107361, ← PySem.W.Fast.te4187177175401517315, ← PySem.W.Fast.te10110043849684766642] at h
  intro w
  have hN' : 2135 ≤ N := Nat.le_of_ble_eq_true hN
  have hop := boot_open (p := PR) (N := N) hd_open (by rw [Nat.ble_eq]; omega) hd_fence w
  obtain ⟨⟨hp, gs, d, k, os⟩, hs, hv⟩ := Option.map_eq_some_iff.mp hop
  obtain ⟨rfl, rfl, rfl, rfl⟩ : hp = boot_heap w.params ∧ gs = Array.mk [] ∧ d = boot_drawn ∧ k = boot_toks := by simpa using hv
  obtain ⟨r, hr, h2⟩ := Option.bind_eq_some_iff.mp (h w os)
  obtain ⟨f, s', c, p'⟩ := r
  obtain ⟨z1, z2, z3⟩ : _ ∧ _ ∧ _ := by simpa only [Prod.mk.injEq] using hd_size w
  cases f with
  | next =>
    obtain ⟨s₁, h3, h4⟩ := Option.bind_eq_some_iff.mp h2
    dsimp only at h3 h4
    cases hst : staticsOk (importedModules PR.main.body) (boot_heap w.params) s₁.heap && namesBound PR s₁.heap && gensDone s₁ && laidKept (boot_heap w.params) s₁.heap with
    | false => rw [hst] at h4; cases h4
    | true =>
      rw [hst] at h4
      injection h4 with h4
      obtain ⟨rfl, h5, h6⟩ : c = hdCode ∧ _ ∧ _ := by simpa only [Prod.mk.injEq] using h4
      have k1 := piece_app (rest := []) (segRun_of hr) (piece_nil h3)
      rw [List.append_nil] at k1
      have k2 := go_top (hd_pre w os) (piece_block (hd_block w os) k1)
      have k3 := topRun_mono (N - 2135) _ _ _ _ k2
      have e : 12 + (1 + (2120 + 2)) + (N - 2135) = N := by omega
      rw [e] at k3
      unfold openEnds
      rw [hs]
      show ((topFrom treeTable PR w N _).map _) = _
      have t : topFrom treeTable PR w N (hdS0 w os) = some s₁ := by
        unfold topFrom
        show (match (boot_heap w.params).isNs mainGlobals && (Array.mk [] : Array GenState).size == 0 with
          | true => (topRun treeTable PR w (boot_heap w.params).objs.size ((boot_heap w.params).nsMap mainGlobals "__annotations__") N (hdS0 w os) (topStub PR)).bind _
          | false => none) = _
        rw [z1, z2, z3]
        dsimp only
        rw [k3]
        show (match staticsOk (importedModules PR.main.body) (boot_heap w.params) s₁.heap && namesBound PR s₁.heap && gensDone s₁ && laidKept (boot_heap w.params) s₁.heap with | true => some s₁ | false => none) = some s₁
        rw [hst]
      exact (congrArg (Option.map _) t).trans (congrArg some (Prod.ext h5 h6))
  | _ => cases h2
local macro_rules | `(tactic| o_head $H:term) => `(tactic| (
  refine holds_open (q := Mine.vw) (loose := []) (Xt := fun s => xlAt Mine.vw [] s && recOk (RowW.records (OpenRow.toRowW PySem.Challenge.rw_xm0663_01.row)) s) (XP := XL Mine.vw []) (Yf := Hook.obs $H) (Ya := Hook.val $H) (YP := Hook.says $H) (N := 4364) ?hl (Hook.of $H) (Hook.keeps $H) (fun s e => xl_of s (Bool.and_eq_true_iff.mp e).1) XL.keeps (by rfl) (by rfl) (by rfl) (fun s e => recFacts_of (Bool.and_eq_true_iff.mp e).2) (by rfl) (by first | assumption | decide +kernel) (by decide +kernel) ⟨rfl, rfl, rfl, rfl, rfl, by decide +kernel⟩ ?hw ?hc
  (case hl => exact left_tree (by decide) (by intro w os; kernel_rfl))))
open_top hd for PySem.Challenge.rw_xm0663_01
end
section
noncomputable abbrev VW : Program := vw
noncomputable abbrev LO : List Str := looseW vw []
abbrev Led := List (Addr × Obj)

def MC (w : World) (D U : Nat) (f : Addr) (vs : List Value) (news : Led) (R : Value → Led → Prop) : Prop :=
  ∀ (mean : ExcName → Option Value) (mg mb : Str → Option Value) (dp un : Nat) (gd : Option (List Code)) (cn : Str) (cs : Scope) (a : Addr) (ccd : Value) (cl : List (Str × Addr)) (outer : List Env) (A₀ : Around) (base h₀ : Heap) (L : Addr) (m : Str → Option Value) (s : Shared) (Q E : Value → Shared → Prop),
    Below A₀ base outer h₀ → Fr h₀ L s.heap m → (hd.heap_39 w.params).In h₀ → News h₀ L s.heap news → Top VW LO mean mg mb h₀ → cs.kind = .function → dp + D < recursionLimit → un + U < cLine →
    (∀ r news' h' tk', Fr h₀ L h' m → News h₀ L h' news' → R r news' → Q r { s with heap := h', toks := tk' }) →
    wpAny (model PR w) (ktrTop dp un gd cn cs L a ccd cl outer) (call (.ref f) vs) Q E s

/-- a mark in the context: from here on the lines marked so are in use -/
inductive Mk : Nat → Prop
  | on (n : Nat) : Mk n
theorem room_le {d D k lim : Nat} (h : d + D < lim) (hk : Nat.ble k D = true) : d + k < lim := Nat.lt_of_le_of_lt (Nat.add_le_add_left (Nat.le_of_ble_eq_true hk) d) h
/-- the draw's state -/
def Src (a b : Int) : Prop := 0 ≤ a ∧ 0 ≤ b ∧ b < 2147483647
abbrev srcObj (a b : Int) (ta tb : Tok) (n : Nat) : Obj := listOf #[.int a ta, .int b tb] n

theorem bits_fm (x : Int) : Builtin.Int.intBits (x.fmod 2147483647) ≤ 64 := by
  have h1 := Int.fmod_nonneg_of_pos x (b := 2147483647) (by decide)
  have h2 := Int.fmod_lt_of_pos x (b := 2147483647) (by decide)
  exact PySem.intBits_le_64 (by omega) (by omega)
end
local macro_rules | `(tactic| ktr_room) => `(tactic| first | exact room_le (k := 1) (by assumption) rfl | exact room_le (k := 2) (by assumption) rfl | exact room_le (k := 3) (by assumption) rfl | exact room_le (k := 4) (by assumption) rfl | exact room_le (k := 5) (by assumption) rfl | exact room_le (k := 6) (by assumption) rfl | exact room_le (k := 7) (by assumption) rfl)
local macro_rules | `(tactic| ktr_units) => `(tactic| first | exact room_le (k := 3) (by assumption) rfl | exact room_le (k := 4) (by assumption) rfl | exact room_le (k := 11) (by assumption) rfl | exact room_le (k := 19) (by assumption) rfl | exact room_le (k := 27) (by assumption) rfl | exact room_le (k := 43) (by assumption) rfl | exact room_le (k := 0) (by assumption) rfl | exact room_le (k := 1) (by assumption) rfl | exact room_le (k := 6) (by assumption) rfl | exact room_le (k := 7) (by assumption) rfl | exact room_le (k := 9) (by assumption) rfl | exact room_le (k := 10) (by assumption) rfl | exact room_le (k := 12) (by assumption) rfl | exact room_le (k := 13) (by assumption) rfl | exact room_le (k := 14) (by assumption) rfl | exact room_le (k := 22) (by assumption) rfl | exact room_le (k := 46) (by assumption) rfl)
local macro_rules | `(tactic| k_room) => `(tactic| ktr_room)
local macro_rules | `(tactic| k_units) => `(tactic| ktr_units)
section
theorem off_XC1 : True := by
  w_top off
  trivial
local macro_rules | `(tactic| k_all) => `(tactic| assumption)

theorem take_mc (w : World) (src : Addr) (a b : Int) (ta tb : Tok) (n : Nat) (top : Int) (tt : Tok) (news : Led)
    (hs : Src a b) (ht : 0 < top ∧ top < 100) (hn : ∀ p ∈ news, p.1 ≠ src) :
    MC w 1 8 306 [.ref src, .int top tt] ((src, srcObj a b ta tb n) :: news)
      (fun r news' => ∃ k tk a' b' ta' tb' n', r = .int k tk ∧ 0 ≤ k ∧ k < top ∧ Src a' b' ∧ news' = (src, srcObj a' b' ta' tb' n') :: news) := by
  have : (fun (_ : OpenLaw) (_ : Params → Frag) => True) PySem.Challenge.rw_xm0663_01 hd.heap_39 := by (k_fill; trivial)
  unfold MC
  intro mean mg mb dp un gd cn cs a ccd cl outer A₀ base h₀ L m s Q E B F X N T hk hdp hun hret
  refine wpAny_call ?_
  k_dflt cell_enter
  show let A₁ : Around := _; wpAny _ A₁ _ _ _ _
  intro A₁
  show let e₁ : Env := _; wpAny _ _ (execs _ e₁) _ _ _
  intro e₁
  repeat' (first | (k_unfold; (try dsimp only)) | (k_end; wrow_close) | ((with_reducible show wpAny _ _ (binaryOp .Mult (Value.int _ _) (Value.int _ _)) _ _ _); k_here; (refine mul_int ?_ (IntMulOk.of_right (bits_fm _)))) | (walk1 <;> (try ((with_reducible show wpAny _ _ (exec _ _) _ _ _); k_fold))) | (dsimp only; walk1) | (leave1; (try dsimp only)))
  · refine hret _ _ _ _ (by k_asm) (by k_asm) ?_
    exact ⟨_, _, _, _, _, _, _, rfl, Int.fmod_nonneg_of_pos _ ht.1, Int.fmod_lt_of_pos _ ht.1, ⟨Int.fdiv_nonneg hs.1 (Int.le_of_lt ht.1), hs.2⟩, rfl⟩
  · refine hret _ _ _ _ (by k_asm) (by k_asm) ?_
    exact ⟨_, _, _, _, _, _, _, rfl, Int.fmod_nonneg_of_pos _ ht.1, Int.fmod_lt_of_pos _ ht.1, ⟨hs.1, Int.fmod_nonneg_of_pos _ (by decide), Int.fmod_lt_of_pos _ (by decide)⟩, rfl⟩
end
section
theorem off_XC2 : True := by
  w_top off
  trivial
theorem UpdF.keeps {d : Addr} {o : Obj} {l : Led} {g : Obj → Led} (U : UpdF d o l g) {p : Addr × Obj} (hp : p ∈ l) (hd : p.1 ≠ d) (o' : Obj) : p ∈ g o' := by
  obtain ⟨pre, post, e, e', h1, h2⟩ := U.split
  rw [e' o']
  rw [e] at hp
  rcases List.mem_append.mp hp with q | q
  · exact List.mem_append_left _ q
  · rcases List.mem_cons.mp q with rfl | q
    · exact absurd rfl hd
    · exact List.mem_append_right _ (.tail _ q)

theorem UpdF.self {d : Addr} {o : Obj} {l : Led} {g : Obj → Led} (U : UpdF d o l g) (o' : Obj) : (d, o') ∈ g o' := by
  obtain ⟨pre, post, e, e', h1, h2⟩ := U.split
  rw [e' o']
  exact List.mem_append_right _ (.head _)
theorem UpdF.here {d : Addr} {o : Obj} {l : Led} {g : Obj → Led} (U : UpdF d o l g) : (d, o) ∈ l := by
  obtain ⟨pre, post, e, e', h1, h2⟩ := U.split
  rw [e]
  exact List.mem_append_right _ (.head _)

theorem sub_cons {x : Addr × Obj} {l l' : Led} (hx : x ∈ l') (h : ∀ p ∈ l, p ∈ l') : ∀ p ∈ x :: l, p ∈ l' := by
  intro p hp
  rcases List.mem_cons.mp hp with rfl | hp
  · exact hx
  · exact h p hp
theorem News.sub {h₀ h : Heap} {L : Addr} {l l' : Led} (N : News h₀ L h l) (hs : ∀ p ∈ l', p ∈ l) : News h₀ L h l' := fun p hp => N p (hs p hp)

/-- a contract at another ledger -/
theorem MC.conv {w : World} {D U : Nat} {f : Addr} {vs : List Value} {l l' : Led} {R R' : Value → Led → Prop} (C : MC w D U f vs l R) (hs : ∀ p ∈ l, p ∈ l')
    (hR : ∀ r n, R r n → ∃ n', R' r n' ∧ ∀ p ∈ n', p ∈ n) : MC w D U f vs l' R' := by
  unfold MC at *
  intro mean mg mb dp un gd cn cs a ccd cl outer A₀ base h₀ L m s Q E B F X N T hk hdp hun hret
  refine C mean mg mb dp un gd cn cs a ccd cl outer A₀ base h₀ L m s Q E B F X (News.sub N hs) T hk hdp hun fun r n h' tk' F' N' hr => ?_
  obtain ⟨n', hr', hn⟩ := hR r n hr
  exact hret r n' h' tk' F' (News.sub N' hn) hr'

theorem MC.use {w : World} {D U : Nat} {f : Addr} {vs : List Value} {l : Led} {R : Value → Led → Prop} (C : MC w D U f vs l R)
    {mean : ExcName → Option Value} {mg mb : Str → Option Value} {dp un : Nat} {gd : Option (List Code)} {cn : Str} {cs : Scope} {a : Addr} {ccd : Value} {cl : List (Str × Addr)} {outer : List Env} {A₀ : Around} {base h₀ : Heap} {L : Addr} {m : Str → Option Value} {s : Shared} {Q E : Value → Shared → Prop}
    (B : Below A₀ base outer h₀) (F : Fr h₀ L s.heap m) (X : (hd.heap_39 w.params).In h₀) (N : News h₀ L s.heap l) (T : Top VW LO mean mg mb h₀) (hk : cs.kind = .function) (hd : dp + D < recursionLimit) (hu : un + U < cLine)
    (ret : ∀ r news' h' tk', Fr h₀ L h' m → News h₀ L h' news' → R r news' → Q r { s with heap := h', toks := tk' }) :
    wpAny (model PR w) (ktrTop dp un gd cn cs L a ccd cl outer) (call (.ref f) vs) Q E s :=
  C mean mg mb dp un gd cn cs a ccd cl outer A₀ base h₀ L m s Q E B F X N T hk hd hu ret

theorem MC.use2 {w : World} {D U : Nat} {f : Addr} {vs : List Value} {l : Led} {R : Value → Led → Prop} (C : MC w D U f vs l R)
    {mean : ExcName → Option Value} {mg mb : Str → Option Value} {dp un : Nat} {gd : Option (List Code)} {cn : Str} {cs : Scope} {a : Addr} {ccd : Value} {cl : List (Str × Addr)} {outer : List Env} {A₀ : Around} {base h₀ : Heap} {L : Addr} {m : Str → Option Value} {s : Shared} {Q E : Value → Shared → Prop}
    (ret : ∀ r news' h' tk', Fr h₀ L h' m → News h₀ L h' news' → R r news' → Q r { s with heap := h', toks := tk' })
    (B : Below A₀ base outer h₀ := by k_asm) (F : Fr h₀ L s.heap m := by k_asm) (X : (hd.heap_39 w.params).In h₀ := by k_asm) (N : News h₀ L s.heap l := by k_asm) (T : Top VW LO mean mg mb h₀ := by k_asm) (hk : cs.kind = .function := by first | exact rfl | assumption) (hd : dp + D < recursionLimit := by ktr_room) (hu : un + U < cLine := by ktr_units) :
    wpAny (model PR w) (ktrTop dp un gd cn cs L a ccd cl outer) (call (.ref f) vs) Q E s := C.use B F X N T hk hd hu ret

theorem take_use (w : World) {src : Addr} {a b : Int} {ta tb : Tok} {n : Nat} {top : Int} {tt : Tok} {led : Led} {g : Obj → Led} (U : UpdF src (srcObj a b ta tb n) led g)
    (hs : Src a b) (ht : 0 < top ∧ top < 100) :
    MC w 1 8 306 [.ref src, .int top tt] led
      (fun r news' => ∃ k tk a' b' ta' tb' n', r = .int k tk ∧ 0 ≤ k ∧ k < top ∧ Src a' b' ∧ news' = g (srcObj a' b' ta' tb' n')) := by
  obtain ⟨pre, post, e, e', h1, h2⟩ := U.split
  refine MC.conv (take_mc w src a b ta tb n top tt (pre ++ post) hs ht fun p hp => ?_) (fun p hp => ?_) ?_
  · rcases List.mem_append.mp hp with q | q
    · exact h1 p q
    · exact h2 p q
  · rw [e]
    rcases List.mem_cons.mp hp with rfl | hp
    · exact List.mem_append_right _ (.head _)
    · rcases List.mem_append.mp hp with q | q
      · exact List.mem_append_left _ q
      · exact List.mem_append_right _ (.tail _ q)
  · rintro r n' ⟨k, tk, a', b', ta', tb', n', hr, h3, h4, h5, rfl⟩
    refine ⟨_, ⟨k, tk, a', b', ta', tb', n', hr, h3, h4, h5, rfl⟩, fun p hp => ?_⟩
    rw [e'] at hp
    rcases List.mem_append.mp hp with q | q
    · exact .tail _ (List.mem_append_left _ q)
    · rcases List.mem_cons.mp q with rfl | q
      · exact .head _
      · exact .tail _ (List.mem_append_right _ q)

theorem item_ofInt {vs : List Value} {k : Int} (h0 : 0 ≤ k) (h1 : k < (vs.length : Int)) : ∃ v, vs[k.toNat]? = some v := by
  have h : k.toNat < vs.length := by omega
  exact ⟨vs[k.toNat], by simp [h]⟩

theorem item_led {prog : Program} {w : World} {A : Around} {E : Value → Shared → Prop} {s : Shared} {value slice : PySem.Expr} {l : Addr} {vs : List Value} {k : Int} {u : Tok} {v : Value} {Q : Value → Shared → Prop}
    (hl : s.heap.IsList l vs.toArray) (h0 : 0 ≤ k) (hhi : k < 2 ^ 63) (hx : vs[k.toNat]? = some v) (h : Q v s)
    (hs : subscripted slice false (.ref l) (.int k u) = operate [.ref l, .int k u] (getItem (.ref l) (.int k u)) := by with_unfolding_all rfl) :
    wpAny (model prog w) A (subscriptTail value slice (.ref l) (.int k u)) Q E s :=
  tail_any hl.typeIs slot_list_getitem.lookup (wpAny_getItem_list hl h0 hhi (by simpa using hx) h) hs



theorem one_mc (w : World) {src tl : Addr} {a b : Int} {ta tb : Tok} {n nt : Nat} {vs : List Value} {k : Int} {led : Led} {g : Obj → Led} (U : UpdF src (srcObj a b ta tb n) led g)
    (hs : Src a b) (hm : (tl, listOf vs.toArray nt) ∈ led) (hne : tl ≠ src) (hl : (vs.length : Int) = k) (hk0 : 0 < k ∧ k < 100) :
    MC w 2 16 313 [.ref src, .ref tl] led
      (fun r news' => ∃ (i : Nat) (a' b' : Int) (ta' tb' : Tok) (n' : Nat), vs[i]? = some r ∧ Src a' b' ∧ news' = g (srcObj a' b' ta' tb' n')) := by
  have : (fun (_ : OpenLaw) (_ : Params → Frag) => True) PySem.Challenge.rw_xm0663_01 hd.heap_39 := by (k_fill; trivial)
  unfold MC
  intro mean mg mb dp un gd cn cs a ccd cl outer A₀ base h₀ L m s Q E B F X N T hk hdp hun hret
  refine wpAny_call ?_
  k_dflt cell_enter
  show let A₁ : Around := _; wpAny _ A₁ _ _ _ _
  intro A₁
  show let e₁ : Env := _; wpAny _ _ (execs _ e₁) _ _ _
  intro e₁
  repeat' (first | (k_unfold; (try dsimp only)) | (k_end; wrow_close) | ((with_reducible show wpAny _ _ (call (Value.ref _) _) _ _ _); k_here; (with_reducible show wpAny _ _ (call (Value.ref 306) _) _ _ _); k_dflt (refine' MC.use2 (take_use _ ?U ?hs ?ht) ?_; (case U => first | assumption | k_updF); (case hs => assumption); (case ht => first | assumption | decide); intro zr9 znews9 zh9 ztk9 zF9 zN9 zhR9; obtain ⟨zk9, zt9, za9, zb9, zta9, ztb9, zn9, ze9, zhlo9, zhhi9, zhs9, zel9⟩ := zhR9; subst ze9; subst zel9; (try k_sweep); (try dsimp only); (try k_fold))) | ((with_reducible show wpAny _ _ (call (Value.builtin "len") _) _ _ _); k_here; k_dflt (refine kun_lenL (News.isList (by k_asm) (by assumption)) (by simpa using (by assumption : ((_ : List Value).length : Int) = _)) (by omega) ?_)) | (walk1 <;> (try ((with_reducible show wpAny _ _ (exec _ _) _ _ _); k_fold))) | (dsimp only; walk1) | (leave1; (try dsimp only)))
  rename News _ _ _ _ => N9
  rename 0 ≤ _ => hlo
  rename _ < k => hhi
  rename Src _ _ => hs9
  obtain ⟨v, hv⟩ := item_ofInt (vs := vs) hlo (by omega)
  refine item_led (News.isList N9 (UpdF.keeps U hm hne _)) hlo (by omega) hv ?_
  repeat' (first | (k_unfold; (try dsimp only)) | (k_end; wrow_close) | ((with_reducible show wpAny _ _ (call (Value.ref _) _) _ _ _); k_here; (with_reducible show wpAny _ _ (call (Value.ref 306) _) _ _ _); k_dflt (refine' MC.use2 (take_use _ ?U ?hs ?ht) ?_; (case U => first | assumption | k_updF); (case hs => assumption); (case ht => first | assumption | decide); intro zr9 znews9 zh9 ztk9 zF9 zN9 zhR9; obtain ⟨zk9, zt9, za9, zb9, zta9, ztb9, zn9, ze9, zhlo9, zhhi9, zhs9, zel9⟩ := zhR9; subst ze9; subst zel9; (try k_sweep); (try dsimp only); (try k_fold))) | ((with_reducible show wpAny _ _ (call (Value.builtin "len") _) _ _ _); k_here; k_dflt (refine kun_lenL (News.isList (by k_asm) (by assumption)) (by simpa using (by assumption : ((_ : List Value).length : Int) = _)) (by omega) ?_)) | (walk1 <;> (try ((with_reducible show wpAny _ _ (exec _ _) _ _ _); k_fold))) | (dsimp only; walk1) | (leave1; (try dsimp only)))
  refine hret _ _ _ _ (by k_asm) (by k_asm) ?_
  exact ⟨_, _, _, _, _, _, hv, hs9, rfl⟩
end
section
open PySem.Calls

/-! plain data -/
abbrev Prs := List (Str × Str)
def lk (c : Prs) (k : Str) : Option Str := (c.find? fun p => p.1 = k).map (·.2)
def put (c : Prs) (k v : Str) : Prs := if c.any (fun p => p.1 = k) then c.map (fun p => if p.1 = k then (p.1, v) else p) else c ++ [(k, v)]
def del (c : Prs) (k : Str) : Prs := c.filter fun p => decide (p.1 ≠ k)

inductive Vals : List (Str × Value) → Prs → Prop
  | nil : Vals [] []
  | cons {kvs : List (Str × Value)} {c : Prs} {k v : Str} {t : Tok} : Vals kvs c → Vals ((k, .str v t) :: kvs) ((k, v) :: c)

theorem Vals.keys {kvs : List (Str × Value)} {c : Prs} (h : Vals kvs c) : kvs.map (·.1) = c.map (·.1) := by
  induction h with
  | nil => rfl
  | cons _ ih => simp [ih]
theorem Vals.length {kvs : List (Str × Value)} {c : Prs} (h : Vals kvs c) : kvs.length = c.length := by
  have := congrArg List.length h.keys
  simpa using this
theorem Vals.none {kvs : List (Str × Value)} {c : Prs} {k : Str} (h : Vals kvs c) (e : lk c k = none) : valueAt kvs k = none := by
  induction h with
  | nil => rfl
  | @cons kvs c a v t _ ih =>
    by_cases q : a = k
    · simp [lk, q] at e
    · have : lk c k = Option.none := by simpa [lk, q] using e
      simpa [valueAt, q] using ih this
theorem Vals.some {kvs : List (Str × Value)} {c : Prs} {k v : Str} (h : Vals kvs c) (e : lk c k = some v) : ∃ t, valueAt kvs k = some (.str v t) := by
  induction h with
  | nil => simp [lk] at e
  | @cons kvs c a u t _ ih =>
    by_cases q : a = k
    · have : u = v := by simpa [lk, q] using e
      subst this
      exact ⟨t, by simp [valueAt, q]⟩
    · have : lk c k = Option.some v := by simpa [lk, q] using e
      simpa [valueAt, q] using ih this
theorem Vals.isSome {kvs : List (Str × Value)} {c : Prs} (h : Vals kvs c) (k : Str) : (valueAt kvs k).isSome = (lk c k).isSome := by
  cases e : lk c k with
  | none => rw [h.none e]; rfl
  | some v => obtain ⟨t, e'⟩ := h.some e; rw [e']; rfl
theorem Vals.any {kvs : List (Str × Value)} {c : Prs} (h : Vals kvs c) (k : Str) : kvs.any (fun kv => kv.1 = k) = c.any (fun p => p.1 = k) := by
  induction h with
  | nil => rfl
  | cons _ ih => simp [ih]
theorem Vals.append {kvs kvs' : List (Str × Value)} {c c' : Prs} (h : Vals kvs c) (h' : Vals kvs' c') : Vals (kvs ++ kvs') (c ++ c') := by
  induction h with
  | nil => exact h'
  | cons _ ih => exact .cons ih
theorem Vals.stored {kvs : List (Str × Value)} {c : Prs} (h : Vals kvs c) (k v : Str) (t : Tok) : Vals (stored kvs k (.str v t)) (put c k v) := by
  unfold PySem.stored put
  rw [h.any k]
  by_cases q : (c.any fun p => decide (p.1 = k)) = true
  · rw [if_pos q, if_pos q]
    clear q
    induction h with
    | nil => exact .nil
    | @cons kvs c a u t' _ ih =>
      by_cases e : a = k
      · simp only [List.map_cons, e, if_true]; exact .cons ih
      · simp only [List.map_cons, if_neg e]; exact .cons ih
  · rw [if_neg q, if_neg q]
    exact h.append (.cons .nil)
theorem Vals.without {kvs : List (Str × Value)} {c : Prs} (h : Vals kvs c) (k : Str) : Vals (without kvs k) (del c k) := by
  induction h with
  | nil => exact .nil
  | @cons kvs c a u t' _ ih =>
    unfold PySem.without del at *
    by_cases e : a = k
    · simpa [List.filter_cons, e] using ih
    · simp only [List.filter_cons, e, ne_eq, not_false_eq_true, decide_true, if_true]
      exact .cons ih
end
section
open PySem.Calls

/-! text dicts on the ledger -/
def TT (w : World) (d : Addr) (o : Obj) (c : Prs) : Prop := (d == sysModules) = false ∧ ∃ kvs, o.IsDictOf (PySem.strKind PR w) kvs ∧ Vals kvs c

section
variable {w : World} {A : Around} {E : Value → Shared → Prop} {s : Shared} {h₀ : Heap} {L d : Addr} {m : Str → Option Value} {news : Led} {g : Obj → Led} {o : Obj} {c : Prs} {k v : Str} {tk tv : Tok}

theorem TT.nodup (T : TT w d o c) : (c.map (·.1)).Nodup := by
  obtain ⟨_, kvs, ⟨_, _, _, _, _, _, hn⟩, hv⟩ := T
  rw [← hv.keys]; exact hn

theorem tt_in {Q : Value → Shared → Prop} (N : News h₀ L s.heap news) (hp : (d, o) ∈ news) (T : TT w d o c) (h : Q (.bool (lk c k).isSome) { s with toks := s.toks + 1 }) :
    wpAny (model PR w) A (compareOp .In (.str k tk) (.ref d)) Q E s := by
  obtain ⟨lo, kvs, hd, hv⟩ := T
  exact kda_in N hp hd lo (strKind_is _ _ _ _) _ (hv.isSome k) h
theorem tt_notin {Q : Value → Shared → Prop} (N : News h₀ L s.heap news) (hp : (d, o) ∈ news) (T : TT w d o c) (h : Q (.bool (!(lk c k).isSome)) { s with toks := s.toks + 1 }) :
    wpAny (model PR w) A (compareOp .NotIn (.str k tk) (.ref d)) Q E s := by
  obtain ⟨lo, kvs, hd, hv⟩ := T
  exact kdg_notin N hp hd lo (strKind_is _ _ _ _) _ (hv.isSome k) h
theorem tt_meth {pl : Sem Bool} {Q : Value × List Value → Shared → Prop} (N : News h₀ L s.heap news) (hp : (d, o) ∈ news) (T : TT w d o c) (h : Q (.builtin "dict.get", [.ref d]) s) :
    wpAny (model PR w) A (getMethod (.ref d) "get" pl) Q E s := by
  obtain ⟨lo, kvs, hd, hv⟩ := T
  exact kdg_method N hp hd h
theorem tt_methPop {pl : Sem Bool} {Q : Value × List Value → Shared → Prop} (N : News h₀ L s.heap news) (hp : (d, o) ∈ news) (T : TT w d o c) (h : Q (.builtin "dict.pop", [.ref d]) s) :
    wpAny (model PR w) A (getMethod (.ref d) "pop" pl) Q E s := by
  obtain ⟨lo, kvs, hd, hv⟩ := T
  have hD := kda_dict N hp hd
  exact getMethod_builtin hD.typeIs PySem.F.plainAttrs_dict PySem.F.slot_dict_pop PySem.F.type_dict_pop hD.mapOf.noDict h
theorem tt_get1 {Q : Value → Shared → Prop} (N : News h₀ L s.heap news) (hp : (d, o) ∈ news) (T : TT w d o c)
    (h0 : lk c k = none → Q .none { s with toks := s.toks + 1 }) (h1 : ∀ v t, lk c k = some v → Q (.str v t) { s with toks := s.toks + 1 }) :
    wpAny (model PR w) A (call (.builtin "dict.get") [.ref d, .str k tk]) Q E s := by
  obtain ⟨lo, kvs, hd, hv⟩ := T
  refine kdg_get1 N hp hd lo (strKind_is _ _ _ _) _ rfl ?_
  cases e : lk c k with
  | none => rw [hv.none e]; exact h0 e
  | some v => obtain ⟨t, e'⟩ := hv.some e; rw [e']; exact h1 v t e
theorem tt_get2 {dv : Str} {Q : Value → Shared → Prop} (N : News h₀ L s.heap news) (hp : (d, o) ∈ news) (T : TT w d o c)
    (h : ∀ t, Q (.str ((lk c k).getD dv) t) { s with toks := s.toks + 1 }) :
    wpAny (model PR w) A (call (.builtin "dict.get") [.ref d, .str k tk, .str dv tv]) Q E s := by
  obtain ⟨lo, kvs, hd, hv⟩ := T
  refine kdg_get2 N hp hd lo (strKind_is _ _ _ _) _ rfl ?_
  cases e : lk c k with
  | none => rw [hv.none e]; have := h tv; rw [e] at this; exact this
  | some v => obtain ⟨t, e'⟩ := hv.some e; rw [e']; have := h t; rw [e] at this; exact this
theorem tt_item {value slice : PySem.Expr} {Q : Value → Shared → Prop} (N : News h₀ L s.heap news) (hp : (d, o) ∈ news) (T : TT w d o c) (e : lk c k = some v)
    (h : ∀ t, Q (.str v t) { s with toks := s.toks + 1 })
    (hs : subscripted slice false (.ref d) (.str k tk) = operate [.ref d, .str k tk] (getItem (.ref d) (.str k tk)) := by with_unfolding_all rfl) (hg : ∀ r, letTemporaryGo value (.ref d) r = pure () := by intro _; with_unfolding_all rfl) :
    wpAny (model PR w) A (subscriptTail value slice (.ref d) (.str k tk)) Q E s := by
  obtain ⟨lo, kvs, hd, hv⟩ := T
  obtain ⟨t, e'⟩ := hv.some e
  exact kda_item N hp hd (strKind_is _ _ _ _) e' (h t) hs hg
theorem tt_set {Q : Unit → Shared → Prop} (F : Fr h₀ L s.heap m) (N : News h₀ L s.heap news) (U : UpdF d o news g) (T : TT w d o c) (hsz : c.length ≤ 16384)
    (h : ∀ h' o', Fr h₀ L h' m → News h₀ L h' (g o') → TT w d o' (put c k v) → Q () { s with heap := h', toks := s.toks + 1 }) : wpAny (model PR w) A (setItem (.ref d) (.str k tk) (.str v tv)) Q E s := by
  obtain ⟨lo, kvs, hd, hv⟩ := T
  refine kda_set F N U hd (strKind_is _ _ _ _) (by rw [sizeLine_eq, hv.length]; omega) fun h' o' F' N' hd' => ?_
  exact h h' o' F' N' ⟨lo, _, hd', hv.stored k v tv⟩
theorem tt_pop {Q : Value → Shared → Prop} (F : Fr h₀ L s.heap m) (N : News h₀ L s.heap news) (U : UpdF d o news g) (T : TT w d o c) (hsz : c.length ≤ 16384) (hk : lk c k = some v)
    (h : ∀ h' o' t, Fr h₀ L h' m → News h₀ L h' (g o') → TT w d o' (del c k) → Q (.str v t) { s with heap := h', toks := s.toks + 1 }) :
    wpAny (model PR w) A (call (.builtin "dict.pop") [.ref d, .str k tk]) Q E s := by
  obtain ⟨lo, kvs, hd, hv⟩ := T
  obtain ⟨t, e'⟩ := hv.some hk
  obtain ⟨pre, post, rfl, hg, a, b⟩ := U.split
  have hm := N (d, o) (List.mem_append_right _ (.head _))
  have hD : s.heap.DictOf (PySem.strKind PR w) d kvs := Heap.dictOf_iff.mpr ⟨o, hm.1, hd⟩
  refine call_meetsIn PySem.F.slot_dict_pop hD.typeIs PySem.F.entry_dict_pop (PySem.F.args_dict_pop_2 _ _) (meets_dict_pop_there (PySem.strKind PR w) d (strKind_is PR w k tk) [] (.inl rfl) (by rfl)) ⟨kvs, _, hD, (by rw [sizeLine_eq, hv.length]; omega), e', fun h' hmm hs => ?_⟩
  obtain ⟨o', ho', hd'⟩ := Heap.dictOf_iff.mp hmm
  exact h h' o' t (F.change hs hm.2.1 hm.2.2) (hg o' ▸ N.setIn a b hs ho') ⟨lo, _, hd', hv.without k⟩
theorem tt_dict {Q : Value → Shared → Prop} (F : Fr h₀ L s.heap m) (N : News h₀ L s.heap news) (hbig : h₀.NoLimit) (hp : (d, o) ∈ news) (T : TT w d o c) (hsz : c.length ≤ 16384)
    (h : ∀ x h' o', Fr h₀ L h' m → News h₀ L h' ((x, o') :: news) → (∀ p ∈ news, p.1 < x) → TT w x o' c → Q (.ref x) { s with heap := h' }) :
    wpAny (model PR w) A (call (.type "dict") [.ref d]) Q E s := by
  obtain ⟨lo, kvs, hd, hv⟩ := T
  refine kt_call_dict lo (kda_dict N hp hd) (by rw [sizeLine_eq, hv.length]; omega) fun h' hm hs => ?_
  obtain ⟨o', ho', hd'⟩ := Heap.dictOf_iff.mp hm
  have N1 := News.push F N { cls := .type "dict", data := .dict #[] }
  exact h _ h' o' ((F.push _).change hs (N1 _ (.head _)).2.1 (N1.fresh (.head _))) (N1.setHead N.apart hs ho') (fun p hp => Heap.lt_size (N p hp).1) ⟨F.notModules (modules_low hbig), kvs, hd', hv⟩
theorem tt_new {env : Env} {pos : Pos} {Q : Value → Shared → Prop} (F : Fr h₀ L s.heap m) (N : News h₀ L s.heap news) (hbig : h₀.NoLimit)
    (h : ∀ x h' o', Fr h₀ L h' m → News h₀ L h' ((x, o') :: news) → (∀ p ∈ news, p.1 < x) → TT w x o' [] → Q (.ref x) { s with heap := h' }) :
    wpAny (model PR w) A (eval (.Dict [] [] pos) env) Q E s :=
  newDict_K F N hbig fun x h' o' F' N' l1 lo hd _ _ _ => h x h' o' F' N' l1 ⟨lo, [], hd, .nil⟩
end

/-- do two dicts hold the same -/
def sameD (c1 c2 : Prs) : Bool := c1.length == c2.length && c1.all fun p => decide (lk c2 p.1 = some p.2)
theorem hits_of {w : World} {A : Around} {s : Shared} {kb : List (Str × Value)} {c2 : Prs} (hb : Vals kb c2) : ∀ {ka : List (Str × Value)} {c1 : Prs}, Vals ka c1 → 
    ∃ r, KeqHits A s kb ka r ∧ r = c1.all fun p => decide (lk c2 p.1 = some p.2) := by
  intro ka c1 ha
  induction ha with
  | nil => exact ⟨true, .nil, rfl⟩
  | @cons kvs c k v t _ ih =>
    obtain ⟨r, hr, er⟩ := ih
    cases e : lk c2 k with
    | none => exact ⟨false, .miss (hb.none e), by simp [e]⟩
    | some u =>
      obtain ⟨t', e'⟩ := hb.some e
      refine ⟨_, .hit e' (SeqAt.EqAt.str_str v t u t') hr, ?_⟩
      rw [er]
      simp only [List.all_cons, e]
      congr 1
      by_cases q : v = u
      · subst q; simp
      · have q' : ¬ u = v := fun z => q z.symm
        have q2 : (v == u) = false := by
          cases z : v == u with
          | false => rfl
          | true => exact absurd (eq_of_beq z) q
        simp [q', q2]
theorem tt_eq {w : World} {A : Around} {E : Value → Shared → Prop} {s : Shared} {h₀ : Heap} {L d1 d2 : Addr} {news : Led} {o1 o2 : Obj} {c1 c2 : Prs} {Q : Value → Shared → Prop} (N : News h₀ L s.heap news) (h1 : (d1, o1) ∈ news) (h2 : (d2, o2) ∈ news)
    (T1 : TT w d1 o1 c1) (T2 : TT w d2 o2 c2) (hu : A.units < cLine) (h : Q (.bool (sameD c1 c2)) s) :
    wpAny (model PR w) A (compareOp .Eq (.ref d1) (.ref d2)) Q E s := by
  obtain ⟨lo1, ka, ha, va⟩ := T1
  obtain ⟨lo2, kb, hb, vb⟩ := T2
  obtain ⟨r, hr, er⟩ := hits_of (w := w) (A := A.in1) (s := s) vb va
  refine keq_eq lo1 lo2 (kda_dict N h1 ha) (kda_dict N h2 hb) hu (fun _ => hr) ?_
  rw [va.length, vb.length, er]
  exact h
end
section
open PySem.Calls

/-! loops by an invariant over the ledger; the ledger may grow -/
theorem unrPost_mono {h₀ : Heap} {L : Addr} {s₁ : Shared} {I : Addr} {it : Obj} {r r' : (Str → Option Value) → Led → Prop} {Q : Flow → Shared → Prop} {f : Flow} {s₂ : Shared}
    (h : UnrPost h₀ L s₁ I it r Q f s₂) (hr : ∀ m n, r m n → r' m n) : UnrPost h₀ L s₁ I it r' Q f s₂ := by
  have hE : UnrEnd h₀ L s₁ I it r s₂ → UnrEnd h₀ L s₁ I it r' s₂ := by
    rintro ⟨h', tk, m', n', e, F, N, ho, hx⟩
    exact ⟨h', tk, m', n', e, F, N, ho, hr _ _ hx⟩
  cases f with
  | ret v => exact h
  | brk => exact h
  | next => exact hE h
  | cont => exact hE h

/-- what a turn leaves, by a name that no line opens -/
def LPost (h₀ : Heap) (L : Addr) (s₁ : Shared) (I : Addr) (it : Obj) (rest : (Str → Option Value) → Led → Prop) (Q : Flow → Shared → Prop) (f : Flow) (s₂ : Shared) : Prop := UnrPost h₀ L s₁ I it rest Q f s₂
theorem LPost.next {h₀ : Heap} {L I : Addr} {it : Obj} {rest : (Str → Option Value) → Led → Prop} {Q : Flow → Shared → Prop} {s₁ : Shared} {h' : Heap} {tk : Nat} {m' : Str → Option Value} {all : Led} (F : Fr h₀ L h' m') (N : News h₀ L h' all) (news' : Led)
    (sub : ∀ p ∈ (I, it) :: news', p ∈ all) (off : ∀ p ∈ news', p.1 ≠ I) (r : rest m' news') : LPost h₀ L s₁ I it rest Q .next { s₁ with heap := h', toks := tk } := UnrEnd.intro F N news' sub off r
theorem LPost.ret {h₀ : Heap} {L I : Addr} {it : Obj} {rest : (Str → Option Value) → Led → Prop} {Q : Flow → Shared → Prop} {s₁ s₂ : Shared} {v : Value} (h : Q (.ret v) s₂) : LPost h₀ L s₁ I it rest Q (.ret v) s₂ := h

section
variable {prog : Program} {w : World} {A : Around} {E : Value → Shared → Prop} {s : Shared} {env : Env} {h₀ : Heap} {x : Str} {body : List Stmt} {Q : Flow → Shared → Prop} {m₀ : Str → Option Value}

/-- what the frame holds between the turns -/
def Same (x : Str) (st : List Str) (m₀ m : Str → Option Value) : Prop := ∀ z, z ≠ x → st.contains z = false → m z = m₀ z

theorem rangeRest_of {I : Addr} {n : Nat} (st : List Str) (J : Nat → (Str → Option Value) → Led → Prop)
    (turn : ∀ i (u : Str → Option Value) t h tk nx it, i < n → J i u nx → (∀ p ∈ nx, p.1 ≠ I) → Fr h₀ env.locals h (fun z => if z = x then some (.int (i : Int) t) else if st.contains z then u z else m₀ z) → News h₀ env.locals h ((I, it) :: nx) →
      wpAny (model prog w) A (execs body env) (LPost h₀ env.locals { s with heap := h, toks := tk } I it (fun m' n' => J (i + 1) m' n' ∧ Same x st m₀ m') Q) E { s with heap := h, toks := tk })
    (done : ∀ (u : Str → Option Value) nx h tk, J n u nx → Fr h₀ env.locals h (fun z => if z = x then u z else if st.contains z then u z else m₀ z) → News h₀ env.locals h nx → Q .next { s with heap := h, toks := tk }) :
    ∀ k i m nx, i + k = n → J i m nx → Same x st m₀ m → (∀ p ∈ nx, p.1 ≠ I) → RangeRest prog w A E h₀ env x body Q s I 0 n k i m nx := by
  intro k
  induction k with
  | zero =>
    intro i m nx e hJ hm hI
    refine RangeRest.zero fun h tk F N => ?_
    have e' : i = n := by omega
    subst e'
    refine done m nx h tk hJ ?_ N
    rw [kpf_done0 hm]; exact F
  | succ k ih =>
    intro i m nx e hJ hm hI
    refine RangeRest.succ fun t h tk F N => ?_
    rw [Int.zero_add] at F
    rw [kpf_map0 hm] at F
    refine wpAny_mono (turn i m t h tk nx _ (by omega) hJ hI F N) (fun f s₂ p => ?_) fun _ _ e => e
    have hE : UnrEnd h₀ env.locals { s with heap := h, toks := tk } I (itR (0 + ((i + 1 : Nat) : Int)) ((n : Int) - ((i + 1 : Nat) : Int))) (fun m' n' => J (i + 1) m' n' ∧ Same x st m₀ m') s₂ →
        UnrEnd h₀ env.locals { s with heap := h, toks := tk } I (itR (0 + ((i + 1 : Nat) : Int)) ((n : Int) - ((i + 1 : Nat) : Int))) (RangeRest prog w A E h₀ env x body Q s I 0 n k (i + 1)) s₂ := by
      rintro ⟨h', tk', m', n', e', F', N', ho, hj, hm'⟩
      exact ⟨h', tk', m', n', e', F', N', ho, ih (i + 1) m' n' (by omega) hj hm' ho⟩
    cases f with
    | ret v => exact p
    | brk => exact p
    | next => exact hE p
    | cont => exact hE p

theorem range_inv {r : Addr} {b₀ : Int} {t₀ u₀ v₀ : Tok} {n : Nat} {news : Led} (st : List Str) (J : Nat → (Str → Option Value) → Led → Prop)
    (hh : A.handled = none) (hr : IsRange s.heap r 0 b₀ 1 t₀ u₀ v₀) (hsmall : Builtin.Range.small 0 b₀ 1 = true) (hn : Builtin.Range.rangeSize 0 b₀ 1 = (n : Int)) (F : Fr h₀ env.locals s.heap m₀) (N : News h₀ env.locals s.heap news) (hj : J 0 m₀ news)
    (turn : ∀ I i (u : Str → Option Value) t h tk nx it, i < n → J i u nx → (∀ p ∈ nx, p.1 ≠ I) → Fr h₀ env.locals h (fun z => if z = x then some (.int (i : Int) t) else if st.contains z then u z else m₀ z) → News h₀ env.locals h ((I, it) :: nx) →
      wpAny (model prog w) A (execs body env) (LPost h₀ env.locals { s with heap := h, toks := tk } I it (fun m' n' => J (i + 1) m' n' ∧ Same x st m₀ m') Q) E { s with heap := h, toks := tk })
    (done : ∀ (u : Str → Option Value) nx h tk, J n u nx → Fr h₀ env.locals h (fun z => if z = x then u z else if st.contains z then u z else m₀ z) → News h₀ env.locals h nx → Q .next { s with heap := h, toks := tk }) :
    wpAny (model prog w) A (pyIter (.ref r)) (fun it s₂ => LoopAtV prog w A h₀ env x body Q E it s₂) E s :=
  iter_rangeUnr hh hr hsmall hn F N fun I hI => rangeRest_of st J (turn I) done n 0 m₀ news (by omega) hj (fun _ _ _ => rfl) fun p hp e => absurd (hI p hp) (by rw [e]; exact Nat.lt_irrefl _)

theorem listRest_of {I : Addr} {lp : Addr × Obj} {vs : List Value} (st : List Str) (J : Nat → (Str → Option Value) → Led → Prop)
    (turn : ∀ i v (u : Str → Option Value) h tk nx it, vs[i]? = some v → J i u nx → (∀ p ∈ nx, p.1 ≠ I) → lp ∈ nx → it.cls = .type "list_iterator" → Fr h₀ env.locals h (fun z => if z = x then some v else if st.contains z then u z else m₀ z) → News h₀ env.locals h ((I, it) :: nx) →
      wpAny (model prog w) A (execs body env) (LPost h₀ env.locals { s with heap := h, toks := tk } I it (fun m' n' => lp ∈ n' ∧ J (i + 1) m' n' ∧ Same x st m₀ m') Q) E { s with heap := h, toks := tk })
    (done : ∀ (u : Str → Option Value) nx h tk, J vs.length u nx → lp ∈ nx → Fr h₀ env.locals h (fun z => if z = x then u z else if st.contains z then u z else m₀ z) → News h₀ env.locals h nx → Q .next { s with heap := h, toks := tk }) :
    ∀ k i m nx, i + k = vs.length → lp ∈ nx → J i m nx → Same x st m₀ m → (∀ p ∈ nx, p.1 ≠ I) → ListRest prog w A E h₀ env x body Q s I lp (vs.drop i) m nx := by
  intro k
  induction k with
  | zero =>
    intro i m nx e hl hJ hm hI
    have e' : i = vs.length := by omega
    subst e'
    rw [List.drop_length]
    refine ListRest.zero fun h tk F N => ?_
    refine done m nx h tk hJ hl ?_ N
    rw [kpf_done0 hm]; exact F
  | succ k ih =>
    intro i m nx e hl hJ hm hI
    have hlt : i < vs.length := by omega
    rw [List.drop_eq_getElem_cons hlt]
    refine ListRest.succ fun it h tk hc F N => ?_
    rw [kpf_map0 hm] at F
    refine wpAny_mono (turn i vs[i] m h tk nx it (by simp [hlt]) hJ hI hl hc F N) (fun f s₂ p => ?_) fun _ _ e => e
    have hE : UnrEnd h₀ env.locals { s with heap := h, toks := tk } I it (fun m' n' => lp ∈ n' ∧ J (i + 1) m' n' ∧ Same x st m₀ m') s₂ →
        UnrEnd h₀ env.locals { s with heap := h, toks := tk } I it (fun m' n' => lp ∈ n' ∧ ListRest prog w A E h₀ env x body Q s I lp (vs.drop (i + 1)) m' n') s₂ := by
      rintro ⟨h', tk', m', n', e', F', N', ho, hl', hj, hm'⟩
      exact ⟨h', tk', m', n', e', F', N', ho, hl', ih (i + 1) m' n' (by omega) hl' hj hm' ho⟩
    cases f with
    | ret v => exact p
    | brk => exact p
    | next => exact hE p
    | cont => exact hE p

theorem list_inv {ax : Addr} {vs : List Value} {nn : Nat} {news : Led} (st : List Str) (J : Nat → (Str → Option Value) → Led → Prop)
    (hh : A.handled = none) (F : Fr h₀ env.locals s.heap m₀) (N : News h₀ env.locals s.heap news) (hm : (ax, listOf vs.toArray nn) ∈ news) (hj : J 0 m₀ news)
    (turn : ∀ I i v (u : Str → Option Value) h tk nx it, vs[i]? = some v → J i u nx → (∀ p ∈ nx, p.1 ≠ I) → (ax, listOf vs.toArray nn) ∈ nx → it.cls = .type "list_iterator" → Fr h₀ env.locals h (fun z => if z = x then some v else if st.contains z then u z else m₀ z) → News h₀ env.locals h ((I, it) :: nx) →
      wpAny (model prog w) A (execs body env) (LPost h₀ env.locals { s with heap := h, toks := tk } I it (fun m' n' => (ax, listOf vs.toArray nn) ∈ n' ∧ J (i + 1) m' n' ∧ Same x st m₀ m') Q) E { s with heap := h, toks := tk })
    (done : ∀ (u : Str → Option Value) nx h tk, J vs.length u nx → (ax, listOf vs.toArray nn) ∈ nx → Fr h₀ env.locals h (fun z => if z = x then u z else if st.contains z then u z else m₀ z) → News h₀ env.locals h nx → Q .next { s with heap := h, toks := tk }) :
    wpAny (model prog w) A (pyIter (.ref ax)) (fun it s₂ => LoopAtV prog w A h₀ env x body Q E it s₂) E s :=
  iter_listUnr hh F N hm rfl rfl fun I hI => listRest_of st J (turn I) done vs.length 0 m₀ news (by omega) hm hj (fun _ _ _ => rfl) fun p hp e => absurd (hI p hp) (by rw [e]; exact Nat.lt_irrefl _)
end
end
section
open PySem.Calls

theorem UpdF.again {d : Addr} {o : Obj} {l : Led} {g : Obj → Led} (U : UpdF d o l g) : ∀ o', UpdF d o' (g o') g := by
  induction U with
  | head h => exact fun o' => .head h
  | tail h _ ih => exact fun o' => .tail h (ih o')
theorem UpdF.ne {d x : Addr} {o : Obj} {l : Led} {g : Obj → Led} (U : UpdF d o l g) (h : ∀ p ∈ l, p.1 ≠ x) (o' : Obj) : ∀ p ∈ g o', p.1 ≠ x := by
  obtain ⟨pre, post, e, e', h1, h2⟩ := U.split
  rw [e] at h
  rw [e' o']
  intro p hp
  rcases List.mem_append.mp hp with q | q
  · exact h p (List.mem_append_left _ q)
  · rcases List.mem_cons.mp q with rfl | q
    · exact h (d, o) (List.mem_append_right _ (.head _))
    · exact h p (List.mem_append_right _ (.tail _ q))
theorem ne_of_lt {x : Addr} {l : Led} (h : ∀ p ∈ l, p.1 < x) : ∀ p ∈ l, p.1 ≠ x := fun p hp => Nat.ne_of_lt (h p hp)

theorem ne_upd {d x : Addr} {o : Obj} {l : Led} {g : Obj → Led} (U : UpdF d o l g) (h : ∀ p ∈ l, p.1 < x) : x ≠ d := Nat.ne_of_gt (h _ (UpdF.here U))
theorem ne_mem {d x : Addr} {o : Obj} {l : Led} (h : ∀ p ∈ l, p.1 < x) (hm : (d, o) ∈ l) : x ≠ d := Nat.ne_of_gt (h _ hm)
theorem ne_off {d x : Addr} {o : Obj} {l : Led} (h : ∀ p ∈ l, p.1 ≠ x) (hm : (d, o) ∈ l) : d ≠ x := h _ hm
noncomputable def strsOf : List Value → List Str
  | [] => []
  | .str x _ :: r => x :: strsOf r
  | _ :: r => strsOf r
noncomputable def allStr : List Value → Bool
  | [] => true
  | .str _ _ :: r => allStr r
  | _ :: _ => false
theorem pick_strs : ∀ {vs : List Value}, allStr vs = true → ∀ {i : Nat} {r : Value}, vs[i]? = some r → ∃ x t, r = .str x t ∧ x ∈ strsOf vs
  | [], _, i, r, e => by simp at e
  | .str x t :: vs, h, i, r, e => by
    cases i with
    | zero => simp at e; exact ⟨x, t, e.symm, .head _⟩
    | succ i => obtain ⟨y, u, a, b⟩ := pick_strs (vs := vs) h (by simpa using e); exact ⟨y, u, a, .tail _ b⟩
  | .none :: _, h, _, _, _ => nomatch h
  | .bool _ :: _, h, _, _, _ => nomatch h
  | .int _ _ :: _, h, _, _, _ => nomatch h
  | .float _ _ :: _, h, _, _, _ => nomatch h
  | .ref _ :: _, h, _, _, _ => nomatch h
  | .bytes _ _ :: _, h, _, _, _ => nomatch h
  | .type _ :: _, h, _, _, _ => nomatch h
  | .builtin _ :: _, h, _, _, _ => nomatch h

/-- the menus -/
def K5 : List Str := [Str.ofString "", Str.ofString "p", Str.ofString "q", Str.ofString "a", Str.ofString "xml"]
def V4 : List Str := [Str.ofString "u", Str.ofString "v", Str.ofString "a&b\"<\t", Str.ofString "u"]
def Good (c : Prs) : Prop := ∀ p ∈ c, p.1 ∈ K5 ∧ p.2 ∈ V4
theorem Good.put {c : Prs} (h : Good c) {k v : Str} (hk : k ∈ K5) (hv : v ∈ V4) : Good (put c k v) := by
  intro p hp
  unfold Mine.put at hp
  split at hp
  · obtain ⟨q, hq, rfl⟩ := List.mem_map.mp hp
    split
    · exact ⟨(h q hq).1, hv⟩
    · exact h q hq
  · rcases List.mem_append.mp hp with q | q
    · exact h p q
    · rw [List.mem_singleton.mp q]; exact ⟨hk, hv⟩
theorem put_len (c : Prs) (k v : Str) : (put c k v).length ≤ c.length + 1 := by
  unfold Mine.put; split <;> simp



theorem nm_led {P : Prop} {l : Led} {d : Addr} (h : ∀ p ∈ l, p.1 < d) (k : ∀ x : Addr, x = d → P) : P := k d rfl
theorem good_nil : Good [] := fun _ h => nomatch h
theorem range_small {n : Nat} (h : n < 6) : Builtin.Range.small 0 n 1 = true ∧ Builtin.Range.rangeSize 0 n 1 = (n : Int) := by
  have : n = 0 ∨ n = 1 ∨ n = 2 ∨ n = 3 ∨ n = 4 ∨ n = 5 := by omega
  rcases this with rfl | rfl | rfl | rfl | rfl | rfl <;> exact ⟨by decide, by decide⟩
theorem off_upd {I : Addr} {d src : Addr} {o o' : Obj} {x y : Obj} {l : Led} {g : Obj → Led} (U : UpdF src x l g) (h : ∀ p ∈ (d, o) :: g y, p.1 ≠ I) (z : Obj) : ∀ p ∈ (d, o') :: g z, p.1 ≠ I := by
  intro p hp
  rcases List.mem_cons.mp hp with rfl | hp
  · exact h (d, o) (.head _)
  · exact UpdF.ne (UpdF.again U y) (fun q hq => h q (.tail _ hq)) z p hp
theorem UpdF.toUpd {d : Addr} {o o' : Obj} {l : Led} {g : Obj → Led} (U : UpdF d o l g) : Upd d o o' l (g o') := by
  induction U with
  | head h => exact .head h
  | tail h _ ih => exact .tail h ih
end
local macro_rules | `(tactic| k_mem) => `(tactic| ((fail_if_success (have g9 : Mk 0 := by assumption)); (first | assumption | exact List.Mem.head _ | exact UpdF.self (by assumption) _ | exact List.Mem.tail _ (by k_mem))))
local macro_rules | `(tactic| k_all) => `(tactic| ((fail_if_success (have g9 : Mk 0 := by assumption)); (first | assumption | exact UpdF.ne (by assumption) (by assumption) _)))
local macro_rules | `(tactic| k_ne) => `(tactic| ((fail_if_success (have g9 : Mk 1 := by assumption)); (first | assumption | exact ne_upd (by assumption) (by assumption) | exact ne_mem (by assumption) (by k_mem) | exact Ne.symm (ne_mem (by assumption) (by k_mem)) | exact Ne.symm (ne_upd (by assumption) (by assumption)) | exact ne_off (by assumption) (by k_mem) | exact Ne.symm (ne_off (by assumption) (by k_mem)))))
local macro_rules | `(tactic| k_updF) => `(tactic| ((fail_if_success (have g9 : Mk 0 := by assumption)); (first | assumption | exact UpdF.again (by assumption) _)))
local macro_rules | `(tactic| k_upd) => `(tactic| ((fail_if_success (have g9 : Mk 0 := by assumption)); (exact UpdF.toUpd (by assumption))))
section
theorem off_XO : True := by
  w_top off
  trivial
open PySem.Calls
theorem scope_mc (w : World) {src : Addr} {a b : Int} {ta tb : Tok} {n : Nat} {led : Led} {g : Obj → Led} (U : UpdF src (srcObj a b ta tb n) led g) (hs : Src a b) :
    MC w 3 24 320 [.ref src] led
      (fun r news' => ∃ (d : Addr) (o : Obj) (c : Prs) (a' b' : Int) (ta' tb' : Tok) (n' : Nat), r = .ref d ∧ TT w d o c ∧ Good c ∧ c.length ≤ 5 ∧ (∀ p ∈ led, p.1 < d) ∧ Src a' b' ∧ news' = (d, o) :: g (srcObj a' b' ta' tb' n')) := by
  have : (fun (_ : OpenLaw) (_ : Params → Frag) => True) PySem.Challenge.rw_xm0663_01 hd.heap_39 := by (k_fill; trivial)
  unfold MC
  intro mean mg mb dp un gd cn cs a ccd cl outer A₀ base h₀ L m s Q E B F X N T hk hdp hun hret
  refine wpAny_call ?_
  k_dflt cell_enter
  show let A₁ : Around := _; wpAny _ A₁ _ _ _ _
  intro A₁
  show let e₁ : Env := _; wpAny _ _ (execs _ e₁) _ _ _
  intro e₁
  repeat' ((fail_if_success (with_reducible show wpAny _ _ (pyIter (Value.ref _)) _ _ _)); (first | (k_unfold; (try dsimp only)) | (k_end; wrow_close) | ((with_reducible show wpAny _ _ (setItem (Value.ref _) (Value.str _ _) _) _ _ _); k_here; k_dflt (refine tt_set (by k_asm) (by k_asm) (by k_updF) (by assumption) (by omega) ?_); intro zhq zoq zFq zNq zhTq; (try dsimp only at zNq)) | ((with_reducible show wpAny _ _ (newList _) _ _ _); k_here; k_dflt (refine' newList_K ?k1 ?k2 ?_ ?kz; (case k1 => k_asm); (case k2 => k_asm); (case kz => (rw [sizeLine_eq]; simp only [List.length_cons, List.length_nil]; omega)); k_whole); intro zlq zhq zFq zNq zl1; (try k_sweep)) | ((with_reducible show wpAny _ _ (call (Value.ref _) _) _ _ _); k_here; (with_reducible show wpAny _ _ (call (Value.ref 313) _) _ _ _); k_dflt (refine' MC.use2 (one_mc _ ?U ?hs ?hm ?hne ?hl ?hk) ?_; (case U => first | assumption | k_updF); (case hs => assumption); (case hm => k_mem); (case hne => k_ne); (case hl => exact rfl); (case hk => (constructor <;> (simp only [List.length_cons, List.length_nil]; omega))); intro zr9 znews9 zh9 ztk9 zF9 zN9 zhR9; obtain ⟨zi9, za9, zb9, zta9, ztb9, zn9, zhr9, zhs9, zel9⟩ := zhR9; subst zel9; obtain ⟨zx9, zu9, ze9, zhx9⟩ := pick_strs (by rfl) zhr9; subst ze9; clear zhr9; (try k_sweep); (try dsimp only); (try k_fold))) | ((with_reducible show wpAny _ _ (call (Value.ref _) _) _ _ _); k_here; (with_reducible show wpAny _ _ (call (Value.ref 306) _) _ _ _); k_dflt (refine' MC.use2 (take_use _ ?U ?hs ?ht) ?_; (case U => first | assumption | k_updF); (case hs => assumption); (case ht => first | assumption | decide); intro zr9 znews9 zh9 ztk9 zF9 zN9 zhR9; obtain ⟨zk9, zt9, za9, zb9, zta9, ztb9, zn9, ze9, zhlo9, zhhi9, zhs9, zel9⟩ := zhR9; subst ze9; subst zel9; (try k_sweep); (try dsimp only); (try k_fold))) | (walk1 <;> (try ((with_reducible show wpAny _ _ (exec _ _) _ _ _); k_fold))) | (dsimp only; walk1) | (leave1; (try dsimp only))))
  rename IsRange _ _ _ _ _ _ _ _ => hR
  rename ∀ p ∈ led, p.1 < _ => l1
  rename (_ == sysModules) = false => lo
  rename Obj.IsDictOf (PySem.strKind PR w) _ [] => hd0
  rename Src _ _ => hs9
  rename 0 ≤ _ => h0
  rename _ < (6 : Int) => h6
  rename Fr _ _ _ _ => F1
  rename News _ _ _ _ => N1
  refine nm_led l1 fun d e => ?_
  subst e
  obtain ⟨n6, e6⟩ := Int.eq_ofNat_of_zero_le h0
  subst e6
  obtain ⟨hs1, hs2⟩ := range_small (n := n6) (by omega)
  have hld := ne_of_lt l1
  refine range_inv (n := n6) [] (fun i _ nx => ∃ (o : Obj) (c : Prs) (a' b' : Int) (ta' tb' : Tok) (n' : Nat), TT w d o c ∧ Good c ∧ c.length ≤ i ∧ Src a' b' ∧ nx = (d, o) :: g (srcObj a' b' ta' tb' n'))
    (by rfl) hR hs1 hs2 F1 N1 ⟨_, _, _, _, _, _, _, ⟨lo, [], hd0, .nil⟩, good_nil, Nat.le_refl _, hs9, rfl⟩ ?turn ?done
  case turn =>
    intro I i u t h tk nx it hi hJ hI F2 N2
    obtain ⟨o2, c2, a2, b2, ta2, tb2, n2, hT2, hG2, hl2, hs2', rfl⟩ := hJ
    clear hR F1 N1 hs9 hd0 lo
    repeat' (first | (k_unfold; (try dsimp only)) | (k_end; wrow_close) | ((with_reducible show wpAny _ _ (setItem (Value.ref _) (Value.str _ _) _) _ _ _); k_here; k_dflt (refine tt_set (by k_asm) (by k_asm) (by k_updF) (by assumption) (by omega) ?_); intro zhq zoq zFq zNq zhTq; (try dsimp only at zNq)) | ((with_reducible show wpAny _ _ (newList _) _ _ _); k_here; k_dflt (refine' newList_K ?k1 ?k2 ?_ ?kz; (case k1 => k_asm); (case k2 => k_asm); (case kz => (rw [sizeLine_eq]; simp only [List.length_cons, List.length_nil]; omega)); k_whole); intro zlq zhq zFq zNq zl1; (try k_sweep)) | ((with_reducible show wpAny _ _ (call (Value.ref _) _) _ _ _); k_here; (with_reducible show wpAny _ _ (call (Value.ref 313) _) _ _ _); k_dflt (refine' MC.use2 (one_mc _ ?U ?hs ?hm ?hne ?hl ?hk) ?_; (case U => first | assumption | k_updF); (case hs => assumption); (case hm => k_mem); (case hne => k_ne); (case hl => exact rfl); (case hk => (constructor <;> (simp only [List.length_cons, List.length_nil]; omega))); intro zr9 znews9 zh9 ztk9 zF9 zN9 zhR9; obtain ⟨zi9, za9, zb9, zta9, ztb9, zn9, zhr9, zhs9, zel9⟩ := zhR9; subst zel9; obtain ⟨zx9, zu9, ze9, zhx9⟩ := pick_strs (by rfl) zhr9; subst ze9; clear zhr9; (try k_sweep); (try dsimp only); (try k_fold))) | ((with_reducible show wpAny _ _ (call (Value.ref _) _) _ _ _); k_here; (with_reducible show wpAny _ _ (call (Value.ref 306) _) _ _ _); k_dflt (refine' MC.use2 (take_use _ ?U ?hs ?ht) ?_; (case U => first | assumption | k_updF); (case hs => assumption); (case ht => first | assumption | decide); intro zr9 znews9 zh9 ztk9 zF9 zN9 zhR9; obtain ⟨zk9, zt9, za9, zb9, zta9, ztb9, zn9, ze9, zhlo9, zhhi9, zhs9, zel9⟩ := zhR9; subst ze9; subst zel9; (try k_sweep); (try dsimp only); (try k_fold))) | (walk1 <;> (try ((with_reducible show wpAny _ _ (exec _ _) _ _ _); k_fold))) | (dsimp only; walk1) | (leave1; (try dsimp only)))
    rename TT w d _ (put _ _ _) => hT3
    rename Src _ _ => hs3
    refine LPost.next (by k_asm) (by k_asm) _ (fun p hp => .tail _ (.tail _ hp)) (off_upd U hI _) ⟨⟨_, _, _, _, _, _, _, hT3, Good.put hG2 (by assumption) (by assumption), Nat.le_trans (put_len _ _ _) (by omega), hs3, rfl⟩, ?_⟩
    intro z h1 h2
    simp only [if_neg h1, h2, Bool.false_eq_true, if_false]
  case done =>
    intro u nx h tk hJ F2 N2
    obtain ⟨o2, c2, a2, b2, ta2, tb2, n2, hT2, hG2, hl2, hs2', rfl⟩ := hJ
    clear hR F1 N1 hs9 hd0 lo
    repeat' (first | (k_unfold; (try dsimp only)) | (k_end; wrow_close) | ((with_reducible show wpAny _ _ (setItem (Value.ref _) (Value.str _ _) _) _ _ _); k_here; k_dflt (refine tt_set (by k_asm) (by k_asm) (by k_updF) (by assumption) (by omega) ?_); intro zhq zoq zFq zNq zhTq; (try dsimp only at zNq)) | ((with_reducible show wpAny _ _ (newList _) _ _ _); k_here; k_dflt (refine' newList_K ?k1 ?k2 ?_ ?kz; (case k1 => k_asm); (case k2 => k_asm); (case kz => (rw [sizeLine_eq]; simp only [List.length_cons, List.length_nil]; omega)); k_whole); intro zlq zhq zFq zNq zl1; (try k_sweep)) | ((with_reducible show wpAny _ _ (call (Value.ref _) _) _ _ _); k_here; (with_reducible show wpAny _ _ (call (Value.ref 313) _) _ _ _); k_dflt (refine' MC.use2 (one_mc _ ?U ?hs ?hm ?hne ?hl ?hk) ?_; (case U => first | assumption | k_updF); (case hs => assumption); (case hm => k_mem); (case hne => k_ne); (case hl => exact rfl); (case hk => (constructor <;> (simp only [List.length_cons, List.length_nil]; omega))); intro zr9 znews9 zh9 ztk9 zF9 zN9 zhR9; obtain ⟨zi9, za9, zb9, zta9, ztb9, zn9, zhr9, zhs9, zel9⟩ := zhR9; subst zel9; obtain ⟨zx9, zu9, ze9, zhx9⟩ := pick_strs (by rfl) zhr9; subst ze9; clear zhr9; (try k_sweep); (try dsimp only); (try k_fold))) | ((with_reducible show wpAny _ _ (call (Value.ref _) _) _ _ _); k_here; (with_reducible show wpAny _ _ (call (Value.ref 306) _) _ _ _); k_dflt (refine' MC.use2 (take_use _ ?U ?hs ?ht) ?_; (case U => first | assumption | k_updF); (case hs => assumption); (case ht => first | assumption | decide); intro zr9 znews9 zh9 ztk9 zF9 zN9 zhR9; obtain ⟨zk9, zt9, za9, zb9, zta9, ztb9, zn9, ze9, zhlo9, zhhi9, zhs9, zel9⟩ := zhR9; subst ze9; subst zel9; (try k_sweep); (try dsimp only); (try k_fold))) | (walk1 <;> (try ((with_reducible show wpAny _ _ (exec _ _) _ _ _); k_fold))) | (dsimp only; walk1) | (leave1; (try dsimp only)))
    refine hret _ _ _ _ (by k_asm) (by k_asm) ?_
    exact ⟨_, _, _, _, _, _, _, _, rfl, hT2, hG2, by omega, l1, hs2', rfl⟩
end
section
open PySem.Calls

/-- a def entered with an empty ledger: all that stands is kept -/
theorem code_keep {prog : Program} {w : World} {A₀ A : Around} {s : Shared} {base h₀ : Heap} {outer : List Env} {L : Addr} {m mg mb : Str → Option Value} {env : Env} {led : Led} {K : Frag} {p : Program} {loose : List Str} {mean : ExcName → Option Value}
    {R : Result → Shared → Prop} {name qual : Str} {params : Arguments} {body : List Stmt} {scope : Scope} {dV kV doc pm cdv ct oc : Value} {an od : Option Addr} {osl : Array (Option Value)} {f : Addr} {args : Args} {binds : List (Str × Value)}
    (B : Below A₀ base outer h₀) (F : Fr h₀ L s.heap m) (X₀ : K.In h₀) (N : News h₀ L s.heap led) (T : Top p loose mean mg mb h₀) (hA : A.frames = some (env :: outer)) (hf : env.frame = some L) (hke : env.scope.kind = .function)
    (ho : K.lookup f = some ⟨oc, od, .func (fnOf name qual params body scope dV kV doc pm an cdv ct), osl⟩) (hcd : codeIn K cdv qual = true) (hroom : A.depth < recursionLimit)
    (hbind : BindsTo s (fnOf name qual params body scope dV kV doc pm an cdv ct) args binds) (hloc : ∀ y ∈ binds, scope.names.lookup y.1 = some .local)
    (h : ∀ L' h₁, Fr s.heap L' h₁ (fun y => binds.reverse.lookup y) → News s.heap L' h₁ [] → Below A base (env :: outer) s.heap → K.In s.heap → Top p loose mean mg mb s.heap →
      wpAny (model prog w) (A.deeper (envOf qual scope L' f cdv)) (execs body (envOf qual scope L' f cdv))
        (fun fl s' => LeaveK h₀ L m s.heap (fun r s'' => News h₀ L s''.heap led → R r s'') (match fl with | .ret v => v | _ => .none) s')
        (fun e s' => wpAny (model prog w) (A.deeper (envOf qual scope L' f cdv)) (leaving (envOf qual scope L' f cdv) e) (fun _ s'' => R (.error e) s'') (fun e' s'' => R (.error e') s'') s')
        { s with heap := h₁, toks := s.toks + binds.length })
    (hco : scope.isCoroutine = false) (hgen : scope.isGenerator = false) (hk : scope.kind = .function)
    (hcell : ∀ x ∈ scope.names, x.2 ≠ .cell) : codeAny (model prog w) A (.call (.ref f) args) R s := by
  obtain ⟨FG, BG, st, lv⟩ := groundX (R := fun r s'' => News h₀ L s''.heap led → R r s'') (news := []) B F News.nil hA hf hke
  refine codeAny_call_def (fd := fnOf name qual params body scope dV kV doc pm an cdv ct) (body := body) (binds := binds) hroom ((X₀.keeps F.keep) _ _ ho) rfl (T.nolimit.keeps F.keep) (codeRec_of (X₀.keeps F.keep) hcd) rfl hbind hcell hloc (fun h₁ hns hk₁ => ?_) hco hgen hk
  refine wpAny_mono (h s.heap.objs.size h₁ ⟨hns, fun b o e => hk₁ b o e, Nat.le_refl _⟩ News.nil BG (X₀.keeps st) (T.keeps st)) (fun fl s' hl => ?_) fun _ _ y => y
  have hl' := lv _ _ hl
  refine hl' fun q hq => ?_
  obtain ⟨L', m', news', F', N', k⟩ := hl
  exact ⟨F'.keep _ _ (N q hq).1, (N q hq).2⟩
end
section
open PySem.Calls

theorem bne_t {x y : Str} (h : (x != y) = true) : x ≠ y := by intro e; subst e; simp at h
theorem bne_f {x y : Str} (h : (x != y) = false) : x = y := by simpa using h
theorem beq_t {x y : Str} (h : (x == y) = true) : x = y := eq_of_beq h
theorem beq_f {x y : Str} (h : (x == y) = false) : x ≠ y := by intro e; subst e; simp at h
theorem contains_f {y z : Str} {st : List Str} (h : (y :: st).contains z = false) : z ≠ y ∧ st.contains z = false := by
  rw [List.contains_cons, Bool.or_eq_false_iff] at h
  exact ⟨beq_f h.1, h.2⟩

section
variable {prog : Program} {w : World} {A : Around} {E : Value → Shared → Prop} {s : Shared} {env : Env} {h₀ : Heap} {target : PySem.Expr} {body : List Stmt} {Q : Flow → Shared → Prop} {m₀ : Str → Option Value}

/-- what the frame holds between the turns -/
def SameT (st : List Str) (m₀ m : Str → Option Value) : Prop := ∀ z, st.contains z = false → m z = m₀ z
theorem sameT_map {st : List Str} {m₀ m : Str → Option Value} (h : SameT st m₀ m) : (fun z => if st.contains z then m z else m₀ z) = m := by
  funext z
  by_cases q : st.contains z = true
  · rw [if_pos q]
  · rw [if_neg q, h z (by simpa using q)]

theorem itemsRest_of {I : Addr} {lp : Addr × Obj} {vs : List Value} (cn : String) (st : List Str) (J : Nat → (Str → Option Value) → Led → Prop)
    (turn : ∀ i v (u : Str → Option Value) h tk nx it, vs[i]? = some v → J i u nx → (∀ p ∈ nx, p.1 ≠ I) → lp ∈ nx → it.cls = .type cn → Fr h₀ env.locals h (fun z => if st.contains z then u z else m₀ z) → News h₀ env.locals h ((I, it) :: nx) →
      wpAny (model prog w) A (assign target env v) (fun _ s₂ => wpAny (model prog w) A (execs body env) (LPost h₀ env.locals { s with heap := h, toks := tk } I it (fun m' n' => lp ∈ n' ∧ J (i + 1) m' n' ∧ SameT st m₀ m') Q) E s₂) E { s with heap := h, toks := tk })
    (done : ∀ (u : Str → Option Value) nx h tk, J vs.length u nx → lp ∈ nx → Fr h₀ env.locals h (fun z => if st.contains z then u z else m₀ z) → News h₀ env.locals h nx → Q .next { s with heap := h, toks := tk }) :
    ∀ k i m nx, i + k = vs.length → lp ∈ nx → J i m nx → SameT st m₀ m → (∀ p ∈ nx, p.1 ≠ I) → ItemsRest prog w A E h₀ env target body Q s [(I, cn)] [lp] ((vs.drop i).map .val) m nx := by
  intro k
  induction k with
  | zero =>
    intro i m nx e hl hJ hS hI
    have e' : i = vs.length := by omega
    subst e'
    rw [List.drop_length]
    exact ItemsRest.zero fun h tk F N => done m nx h tk hJ hl (by rw [sameT_map hS]; exact F) N
  | succ k ih =>
    intro i m nx e hl hJ hS hI
    have hlt : i < vs.length := by omega
    rw [List.drop_eq_getElem_cons hlt, List.map_cons]
    refine ItemsRest.val fun h tk F it hc N => ?_
    refine wpAny_mono (turn i vs[i] m h tk nx it (by simp [hlt]) hJ hI hl hc (by rw [sameT_map hS]; exact F) N) (fun _ s₂ p => wpAny_mono p (fun f s₃ q => ?_) fun _ _ e => e) fun _ _ e => e
    have hE : UnrEnd h₀ env.locals { s with heap := h, toks := tk } I it (fun m' n' => lp ∈ n' ∧ J (i + 1) m' n' ∧ SameT st m₀ m') s₃ →
        UnrEndW h₀ env.locals { s with heap := h, toks := tk } [(I, it)] (fun m' n' => SubL [lp] n' ∧ ItemsRest prog w A E h₀ env target body Q s [(I, cn)] [lp] ((vs.drop (i + 1)).map .val) m' n') s₃ := by
      rintro ⟨h', tk', m', n', e', F', N', ho, hl', hj, hs⟩
      exact ⟨h', tk', m', n', e', F', N', fun p hp q hq => by rw [List.mem_singleton.mp hq]; exact ho p hp, ⟨hl', trivial⟩, ih (i + 1) m' n' (by omega) hl' hj hs ho⟩
    cases f with
    | ret v => exact q
    | brk => exact q
    | next => exact hE q
    | cont => exact hE q

theorem turns_inv {ax : Addr} {vs : List Value} {n : Nat} {news : Led} (st : List Str) (J : Nat → (Str → Option Value) → Led → Prop)
    (hh : A.handled = none) (F : Fr h₀ env.locals s.heap m₀) (N : News h₀ env.locals s.heap news) (hm : (ax, listOf vs.toArray n) ∈ news) (hj : J 0 m₀ news)
    (turn : ∀ I i v (u : Str → Option Value) h tk nx it, vs[i]? = some v → J i u nx → (∀ p ∈ nx, p.1 ≠ I) → (ax, listOf vs.toArray n) ∈ nx → it.cls = .type "list_iterator" → Fr h₀ env.locals h (fun z => if st.contains z then u z else m₀ z) → News h₀ env.locals h ((I, it) :: nx) →
      wpAny (model prog w) A (assign target env v) (fun _ s₂ => wpAny (model prog w) A (execs body env) (LPost h₀ env.locals { s with heap := h, toks := tk } I it (fun m' n' => (ax, listOf vs.toArray n) ∈ n' ∧ J (i + 1) m' n' ∧ SameT st m₀ m') Q) E s₂) E { s with heap := h, toks := tk })
    (done : ∀ (u : Str → Option Value) nx h tk, J vs.length u nx → (ax, listOf vs.toArray n) ∈ nx → Fr h₀ env.locals h (fun z => if st.contains z then u z else m₀ z) → News h₀ env.locals h nx → Q .next { s with heap := h, toks := tk }) :
    wpAny (model prog w) A (pyIter (.ref ax)) (fun it s₂ => TurnsAt prog w A h₀ env target body Q E it s₂) E s :=
  iter_listTurns hh F N hm rfl rfl fun I hI => itemsRest_of _ st J (turn I) done vs.length 0 m₀ news (by omega) hm hj (fun _ _ => rfl) fun p hp e => absurd (hI p hp) (by rw [e]; exact Nat.lt_irrefl _)
abbrev tupOf (vs : List Value) (n : Nat) : Obj := { cls := .type "tuple", data := .seq vs.toArray n }
theorem tturns_inv {ax : Addr} {vs : List Value} {n : Nat} {news : Led} (st : List Str) (J : Nat → (Str → Option Value) → Led → Prop)
    (hh : A.handled = none) (F : Fr h₀ env.locals s.heap m₀) (N : News h₀ env.locals s.heap news) (hm : (ax, tupOf vs n) ∈ news) (hj : J 0 m₀ news)
    (turn : ∀ I i v (u : Str → Option Value) h tk nx it, vs[i]? = some v → J i u nx → (∀ p ∈ nx, p.1 ≠ I) → (ax, tupOf vs n) ∈ nx → it.cls = .type "tuple_iterator" → Fr h₀ env.locals h (fun z => if st.contains z then u z else m₀ z) → News h₀ env.locals h ((I, it) :: nx) →
      wpAny (model prog w) A (assign target env v) (fun _ s₂ => wpAny (model prog w) A (execs body env) (LPost h₀ env.locals { s with heap := h, toks := tk } I it (fun m' n' => (ax, tupOf vs n) ∈ n' ∧ J (i + 1) m' n' ∧ SameT st m₀ m') Q) E s₂) E { s with heap := h, toks := tk })
    (done : ∀ (u : Str → Option Value) nx h tk, J vs.length u nx → (ax, tupOf vs n) ∈ nx → Fr h₀ env.locals h (fun z => if st.contains z then u z else m₀ z) → News h₀ env.locals h nx → Q .next { s with heap := h, toks := tk }) :
    wpAny (model prog w) A (pyIter (.ref ax)) (fun it s₂ => TurnsAt prog w A h₀ env target body Q E it s₂) E s :=
  iter_tupTurns hh F N hm rfl rfl fun I hI => itemsRest_of _ st J (turn I) done vs.length 0 m₀ news (by omega) hm hj (fun _ _ => rfl) fun p hp e => absurd (hI p hp) (by rw [e]; exact Nat.lt_irrefl _)
theorem map_storedT {y : Str} {st : List Str} {b : Value} {u : Str → Option Value} (hy : u y = some b) :
    (fun z => if (y :: st).contains z then u z else m₀ z) = fun z => if z = y then some b else if st.contains z then u z else m₀ z := by
  funext z
  by_cases h2 : z = y
  · subst h2; simp [hy]
  · have : (y :: st).contains z = st.contains z := by simp [h2]
    rw [this, if_neg h2]
end
end
section
theorem off_XP : True := by
  w_top off
  trivial
open PySem.Calls

def R6 : Prs := [(Str.ofString "&", Str.ofString "&amp;"), (Str.ofString "<", Str.ofString "&lt;"), (Str.ofString "\"", Str.ofString "&quot;"), (Str.ofString "\t", Str.ofString "&#x9;"), (Str.ofString "\n", Str.ofString "&#xA;"), (Str.ofString "\r", Str.ofString "&#xD;")]
def chain (v : Str) (i : Nat) : Str := (R6.take i).foldl (fun t q => Txt.replace t q.1 q.2) v
def canon (v : Str) : Str := if v = Str.ofString "a&b\"<\t" then Str.ofString "a&amp;b&quot;&lt;&#x9;" else v
theorem chain_all : (V4.all fun v => (List.range 7).all fun i => decide ((chain v i).length ≤ 40)) = true := by decide +kernel
theorem chain_fin : (V4.all fun v => decide (chain v 6 = canon v)) = true := by decide +kernel
theorem chain_len {v : Str} (hv : v ∈ V4) {i : Nat} (hi : i < 7) : (chain v i).length ≤ 40 :=
  of_decide_eq_true (List.all_eq_true.mp (List.all_eq_true.mp chain_all v hv) i (List.mem_range.mpr hi))
theorem chain_end {v : Str} (hv : v ∈ V4) : chain v 6 = canon v := of_decide_eq_true (List.all_eq_true.mp chain_fin v hv)
theorem chain_next {v p u : Str} {i : Nat} (h : R6[i]? = some (p, u)) : chain v (i + 1) = Txt.replace (chain v i) p u := by
  unfold chain
  rw [List.take_add_one, h, Option.toList_some, List.foldl_append]; rfl
theorem r6_all : (R6.all fun q => !(q.1 == q.2) && decide (q.2.length ≤ 14)) = true := by decide +kernel
theorem r6_ok {q : Str × Str} (h : q ∈ R6) : (q.1 == q.2) = false ∧ q.2.length ≤ 14 := by
  have := Bool.and_eq_true_iff.mp (List.all_eq_true.mp r6_all q h)
  exact ⟨by simpa using this.1, of_decide_eq_true this.2⟩
/-- a tuple's pairs, their texts told apart -/
inductive PairsT (led : Led) : List Value → Prs → Prop
  | nil : PairsT led [] []
  | cons {vs : List Value} {c : Prs} {t : Addr} {p u : Str} {tp tu : Tok} : (t, ({ cls := .type "tuple", data := .seq #[.str p tp, .str u tu] } : Obj)) ∈ led → tp ≠ 0 → tu ≠ 0 → tp ≠ tu → PairsT led vs c → PairsT led (.ref t :: vs) ((p, u) :: c)
theorem PairsT.len {led : Led} {vs : List Value} {c : Prs} (h : PairsT led vs c) : vs.length = c.length := by
  induction h with
  | nil => rfl
  | cons _ _ _ _ _ ih => simp [ih]
theorem PairsT.at {led : Led} {vs : List Value} {c : Prs} (h : PairsT led vs c) : ∀ {i : Nat} {v : Value}, vs[i]? = some v → ∃ t p u tp tu, v = .ref t ∧ c[i]? = some (p, u) ∧ (t, ({ cls := .type "tuple", data := .seq #[.str p tp, .str u tu] } : Obj)) ∈ led ∧ tp ≠ 0 ∧ tu ≠ 0 ∧ tp ≠ tu := by
  induction h with
  | nil => intro i v e; simp at e
  | @cons vs c t p u tp tu hm h1 h2 h3 _ ih =>
    intro i v e
    cases i with
    | zero => simp at e; exact ⟨t, p, u, tp, tu, e.symm, by simp, hm, h1, h2, h3⟩
    | succ i => obtain ⟨t', p', u', a, b, e1, e2, e3⟩ := ih (by simpa using e); exact ⟨t', p', u', a, b, e1, by simpa using e2, e3⟩

theorem replaced_mc (w : World) {v : Str} {tv : Tok} {T : Addr} {vl : List Value} {n : Nat} {led : Led} (hv : v ∈ V4) (hT : (T, tupOf vl n) ∈ led) (hP : PairsT led vl R6) :
    MC w 1 8 28 [Value.str v tv, Value.ref T] led (fun r news' => ∃ (t : Tok), r = .str (canon v) t ∧ news' = led) := by
  have : (fun (_ : OpenLaw) (_ : Params → Frag) => True) PySem.Challenge.rw_xm0663_01 hd.heap_39 := by (k_fill; trivial)
  unfold MC
  intro mean mg mb dp un gd cn cs a ccd cl outer A₀ base h₀ L m s Q E B F X N T hk hdp hun hret
  refine wpAny_call ?_
  k_dflt cell_enter
  show let A₁ : Around := _; wpAny _ A₁ _ _ _ _
  intro A₁
  show let e₁ : Env := _; wpAny _ _ (execs _ e₁) _ _ _
  intro e₁
  repeat' ((fail_if_success (with_reducible show wpAny _ _ (pyIter (Value.ref _)) _ _ _)); (first | (k_unfold; (try dsimp only)) | (k_end; wrow_close) | ((with_reducible show wpAny _ _ (call (Value.builtin "str.replace") _) _ _ _); k_here; (refine SC.replaceW (by assumption) (by assumption) (by assumption) (by assumption) (by assumption) (by assumption) ?_); intro _ _; (try dsimp only)) | walk1 | (dsimp only; walk1) | (leave1; (try dsimp only))))
  rename Fr _ _ _ _ => F0
  refine' For_turns F0 ?_ ?kths ?kthE
  case kths => intro _; rfl
  case kthE => passes_own
  repeat' ((fail_if_success (with_reducible show wpAny _ _ (pyIter (Value.ref _)) _ _ _)); (first | (k_unfold; (try dsimp only)) | (k_end; wrow_close) | ((with_reducible show wpAny _ _ (call (Value.builtin "str.replace") _) _ _ _); k_here; (refine SC.replaceW (by assumption) (by assumption) (by assumption) (by assumption) (by assumption) (by assumption) ?_); intro _ _; (try dsimp only)) | walk1 | (dsimp only; walk1) | (leave1; (try dsimp only))))
  rename Fr _ _ _ _ => F1
  rename News _ _ _ _ => N1
  refine tturns_inv [Str.ofString "text", Str.ofString "sign", Str.ofString "told"] (fun i u nx => ∃ t, u (Str.ofString "text") = some (.str (chain v i) t) ∧ nx = led) (by rfl) F1 N1 hT ⟨_, rfl, rfl⟩ ?turn ?done
  case turn =>
    intro I9 i x u9 h tk nx it hx hJ hI hlp hc F5 N5
    obtain ⟨t5, hu5, rfl⟩ := hJ
    obtain ⟨t, p, u, tp, tu, rfl, hp, htm, g1, g2, g3⟩ := hP.at hx
    obtain ⟨g4, g5⟩ := r6_ok (List.mem_of_getElem? hp)
    have hi6 : i < 6 := (List.getElem?_eq_some_iff.mp hp).1
    have g6 : (chain v i).length ≤ 1048576 := Nat.le_trans (chain_len hv (Nat.lt_succ_of_lt hi6)) (by decide)
    have hnx := chain_next (v := v) hp
    dsimp only at g4 g5
    rw [map_storedT hu5] at F5
    clear F1 N1
    repeat' (first | (k_unfold; (try dsimp only)) | (k_end; wrow_close) | ((with_reducible show wpAny _ _ (call (Value.builtin "str.replace") _) _ _ _); k_here; (refine SC.replaceW (by assumption) (by assumption) (by assumption) (by assumption) (by assumption) (by assumption) ?_); intro _ _; (try dsimp only)) | (walk1 <;> (try ((with_reducible show wpAny _ _ (exec _ _) _ _ _); k_fold))) | (dsimp only; walk1) | (leave1; (try dsimp only)))
    refine LPost.next (by k_asm) (by k_asm) _ (fun q hq => hq) hI ⟨hlp, ⟨_, by rw [hnx]; rfl, rfl⟩, fun z h2 => ?_⟩
    obtain ⟨h3, h4⟩ := contains_f h2
    obtain ⟨h5, h6⟩ := contains_f h4
    obtain ⟨h7, _⟩ := contains_f h6
    simp only [if_neg h3, if_neg h5, if_neg h7, h4, Bool.false_eq_true, if_false]
  case done =>
    intro u9 nx h tk hJ hlp F5 N5
    obtain ⟨t5, hu5, rfl⟩ := hJ
    have hvl : vl.length = 6 := hP.len
    rw [hvl, chain_end hv] at hu5
    rw [map_storedT hu5] at F5
    clear F1 N1
    repeat' (first | (k_unfold; (try dsimp only)) | (k_end; wrow_close) | ((with_reducible show wpAny _ _ (call (Value.builtin "str.replace") _) _ _ _); k_here; (refine SC.replaceW (by assumption) (by assumption) (by assumption) (by assumption) (by assumption) (by assumption) ?_); intro _ _; (try dsimp only)) | (walk1 <;> (try ((with_reducible show wpAny _ _ (exec _ _) _ _ _); k_fold))) | (dsimp only; walk1) | (leave1; (try dsimp only)))
    exact hret _ _ _ _ (by k_asm) (by k_asm) ⟨_, rfl, rfl⟩

theorem canon_mc (w : World) {v : Str} {tv : Tok} {led : Led} (hv : v ∈ V4) :
    MC w 2 16 35 [.str v tv] led (fun r news' => ∃ (t : Tok), r = .str (canon v) t ∧ news' = led) := by
  have : (fun (_ : OpenLaw) (_ : Params → Frag) => True) PySem.Challenge.rw_xm0663_01 hd.heap_39 := by (k_fill; trivial)
  unfold MC
  intro mean mg mb dp un gd cn cs a ccd cl outer A₀ base h₀ L m s Q E B F X N T hk hdp hun hret
  refine wpAny_call ?_
  k_dflt (
    refine' code_keep ?k1 ?k2 ?k3 ?k4 ?k5 ?kA ?kF ?kK ?k6 ?k7 ?k8 ?k9 ?kB ?_ ?c2 ?c3 ?c4 ?c5
    (case kA => exact rfl)
    (case kF => exact rfl)
    (case kK => first | exact rfl | assumption)
    (case k1 => k_asm)
    (case k2 => k_asm)
    (case k3 => k_asm)
    (case k4 => k_asm)
    (case k5 => k_asm)
    (case k6 => k_is)
    (case k7 => k_is)
    (case k8 => ktr_room)
    (case k9 => exact BindsTo.of_eq rfl)
    (case c5 => decide)
    (case kB => exact locs rfl)
    (case c2 => exact rfl)
    (case c3 => exact rfl)
    (case c4 => exact rfl)
    k_whole
    intro L' h' F' N' B' X' T'
    (try dsimp only)
    (try k_lift B')
    (try k_fold))
  show let A₁ : Around := _; wpAny _ A₁ _ _ _ _
  intro A₁
  show let e₁ : Env := _; wpAny _ _ (execs _ e₁) _ _ _
  intro e₁
  change wpAny _ _ _ _ _ (Shared.mk _ _ _ (s.toks + 1) _)
  clear N
  refine wpAny_execs_cons ?_
  (try dsimp only)
  repeat' ((fail_if_success (with_reducible show wpAny _ _ (call (Value.ref 28) _) _ _ _)); (first | (k_unfold; (try dsimp only)) | (k_end; wrow_close) | ((with_reducible show wpAny _ _ (call (Value.builtin "str.replace") _) _ _ _); k_here; (refine SC.replaceW (by assumption) (by assumption) (by assumption) (by assumption) (by assumption) (by assumption) ?_); intro _ _; (try dsimp only)) | walk1 | (dsimp only; walk1) | (leave1; (try dsimp only))))
  rename News _ _ _ _ => N1
  refine' MC.use2 (replaced_mc w hv ?hT ?hP) ?_ (N := N1)
  case hT => exact .head _
  case hP =>
    refine .cons (by first | exact List.Mem.tail _ (.head _) | exact List.Mem.tail _ (.tail _ (.head _)) | exact List.Mem.tail _ (.tail _ (.tail _ (.head _))) | exact List.Mem.tail _ (.tail _ (.tail _ (.tail _ (.head _)))) | exact List.Mem.tail _ (.tail _ (.tail _ (.tail _ (.tail _ (.head _))))) | exact List.Mem.tail _ (.tail _ (.tail _ (.tail _ (.tail _ (.tail _ (.head _))))))) ?_ ?_ ?_ (.cons (by first | exact List.Mem.tail _ (.head _) | exact List.Mem.tail _ (.tail _ (.head _)) | exact List.Mem.tail _ (.tail _ (.tail _ (.head _))) | exact List.Mem.tail _ (.tail _ (.tail _ (.tail _ (.head _)))) | exact List.Mem.tail _ (.tail _ (.tail _ (.tail _ (.tail _ (.head _))))) | exact List.Mem.tail _ (.tail _ (.tail _ (.tail _ (.tail _ (.tail _ (.head _))))))) ?_ ?_ ?_ (.cons (by first | exact List.Mem.tail _ (.head _) | exact List.Mem.tail _ (.tail _ (.head _)) | exact List.Mem.tail _ (.tail _ (.tail _ (.head _))) | exact List.Mem.tail _ (.tail _ (.tail _ (.tail _ (.head _)))) | exact List.Mem.tail _ (.tail _ (.tail _ (.tail _ (.tail _ (.head _))))) | exact List.Mem.tail _ (.tail _ (.tail _ (.tail _ (.tail _ (.tail _ (.head _))))))) ?_ ?_ ?_ (.cons (by first | exact List.Mem.tail _ (.head _) | exact List.Mem.tail _ (.tail _ (.head _)) | exact List.Mem.tail _ (.tail _ (.tail _ (.head _))) | exact List.Mem.tail _ (.tail _ (.tail _ (.tail _ (.head _)))) | exact List.Mem.tail _ (.tail _ (.tail _ (.tail _ (.tail _ (.head _))))) | exact List.Mem.tail _ (.tail _ (.tail _ (.tail _ (.tail _ (.tail _ (.head _))))))) ?_ ?_ ?_ (.cons (by first | exact List.Mem.tail _ (.head _) | exact List.Mem.tail _ (.tail _ (.head _)) | exact List.Mem.tail _ (.tail _ (.tail _ (.head _))) | exact List.Mem.tail _ (.tail _ (.tail _ (.tail _ (.head _)))) | exact List.Mem.tail _ (.tail _ (.tail _ (.tail _ (.tail _ (.head _))))) | exact List.Mem.tail _ (.tail _ (.tail _ (.tail _ (.tail _ (.tail _ (.head _))))))) ?_ ?_ ?_ (.cons (by first | exact List.Mem.tail _ (.head _) | exact List.Mem.tail _ (.tail _ (.head _)) | exact List.Mem.tail _ (.tail _ (.tail _ (.head _))) | exact List.Mem.tail _ (.tail _ (.tail _ (.tail _ (.head _)))) | exact List.Mem.tail _ (.tail _ (.tail _ (.tail _ (.tail _ (.head _))))) | exact List.Mem.tail _ (.tail _ (.tail _ (.tail _ (.tail _ (.tail _ (.head _))))))) ?_ ?_ ?_ .nil)))))
    all_goals first | exact Nat.succ_ne_zero _ | exact Nat.ne_of_lt (Nat.lt_succ_self _)
  intro r9 news9 h9 tk9 F9 N9 hR9
  obtain ⟨t9, e9, el9⟩ := hR9
  subst e9
  subst news9
  clear N1
  repeat' (first | (k_unfold; (try dsimp only)) | (k_end; wrow_close) | ((with_reducible show wpAny _ _ (call (Value.builtin "str.replace") _) _ _ _); k_here; (refine SC.replaceW (by assumption) (by assumption) (by assumption) (by assumption) (by assumption) (by assumption) ?_); intro _ _; (try dsimp only)) | (walk1 <;> (try ((with_reducible show wpAny _ _ (exec _ _) _ _ _); k_fold))) | (dsimp only; walk1) | (leave1; (try dsimp only)))
  exact hret _ led _ _ (by k_asm) (by assumption) ⟨_, rfl, rfl⟩
end
section
open PySem.Calls

section
variable {w : World} {A : Around} {E : Value → Shared → Prop} {s : Shared} {h₀ : Heap} {L d : Addr} {m : Str → Option Value} {news : Led} {o : Obj} {c : Prs} {k v : Str} {tk tv : Tok}
theorem TT.dictOf (T : TT w d o c) (ho : s.heap.get? d = some o) : ∃ kvs, s.heap.DictOf (PySem.strKind PR w) d kvs ∧ Vals kvs c := by
  obtain ⟨_, kvs, hd, hv⟩ := T
  exact ⟨kvs, Heap.dictOf_iff.mpr ⟨o, ho, hd⟩, hv⟩
theorem th_in {Q : Value → Shared → Prop} (ho : s.heap.get? d = some o) (T : TT w d o c) (h : Q (.bool (lk c k).isSome) { s with toks := s.toks + 1 }) :
    wpAny (model PR w) A (compareOp .In (.str k tk) (.ref d)) Q E s := by
  obtain ⟨kvs, hD, hv⟩ := T.dictOf ho
  exact wpAny_in_of (strKind_is _ _ _ _) T.1 hD.mapOf (by rw [hv.isSome k]; exact h)
theorem th_notin {Q : Value → Shared → Prop} (ho : s.heap.get? d = some o) (T : TT w d o c) (h : Q (.bool (!(lk c k).isSome)) { s with toks := s.toks + 1 }) :
    wpAny (model PR w) A (compareOp .NotIn (.str k tk) (.ref d)) Q E s := by
  obtain ⟨kvs, hD, hv⟩ := T.dictOf ho
  exact wpAny_notIn_of (strKind_is _ _ _ _) T.1 hD.mapOf (by rw [hv.isSome k]; exact h)
theorem th_meth {pl : Sem Bool} {Q : Value × List Value → Shared → Prop} (ho : s.heap.get? d = some o) (T : TT w d o c) (h : Q (.builtin "dict.get", [.ref d]) s) :
    wpAny (model PR w) A (getMethod (.ref d) "get" pl) Q E s := by
  obtain ⟨kvs, hD, hv⟩ := T.dictOf ho
  exact getMethod_builtin hD.typeIs PySem.F.plainAttrs_dict PySem.F.slot_dict_get PySem.F.type_dict_get hD.mapOf.noDict h
theorem th_get1 {Q : Value → Shared → Prop} (ho : s.heap.get? d = some o) (T : TT w d o c)
    (h0 : lk c k = none → Q .none { s with toks := s.toks + 1 }) (h1 : ∀ v t, lk c k = some v → Q (.str v t) { s with toks := s.toks + 1 }) :
    wpAny (model PR w) A (call (.builtin "dict.get") [.ref d, .str k tk]) Q E s := by
  obtain ⟨kvs, hD, hv⟩ := T.dictOf ho
  refine call_meetsIn PySem.F.slot_dict_get hD.typeIs PySem.F.entry_dict_get (PySem.F.args_dict_get_2 _ _) (meets_dict_get (PySem.strKind PR w) d (strKind_is PR w k tk) T.1) ⟨_, hD.mapOf, ?_⟩
  cases e : lk c k with
  | none => rw [hv.none e]; exact h0 e
  | some v => obtain ⟨t, e'⟩ := hv.some e; rw [e']; exact h1 v t e
theorem th_item {value slice : PySem.Expr} {Q : Value → Shared → Prop} (ho : s.heap.get? d = some o) (T : TT w d o c) (e : lk c k = some v)
    (h : ∀ t, Q (.str v t) { s with toks := s.toks + 1 })
    (hs : subscripted slice false (.ref d) (.str k tk) = operate [.ref d, .str k tk] (getItem (.ref d) (.str k tk)) := by with_unfolding_all rfl) (hg : ∀ r, letTemporaryGo value (.ref d) r = pure () := by intro _; with_unfolding_all rfl) :
    wpAny (model PR w) A (subscriptTail value slice (.ref d) (.str k tk)) Q E s := by
  obtain ⟨kvs, hD, hv⟩ := T.dictOf ho
  obtain ⟨t, e'⟩ := hv.some e
  exact subscriptTail_builtin hD.typeIs slot_dict_getitem.lookup (wpAny_getItem_of (strKind_is PR w k tk) hD.mapOf e' (h t)) hs hg

theorem th_sorted {Q : Value → Shared → Prop} (hh : A.handled = none) (F : Fr h₀ L s.heap m) (N : News h₀ L s.heap news) (ho : s.heap.get? d = some o) (T : TT w d o c) (hc : c.length ≤ 60)
    (h : ∀ B h' tk vs' ss' e, Fr h₀ L h' m → News h₀ L h' ((B, listOf vs'.toArray e) :: news) → (∀ q ∈ news, q.1 < B) → StrsAre vs' ss' → ss'.Perm (c.map (·.1)) → sortedS ss' = true → Q (.ref B) { s with heap := h', toks := tk }) :
    wpAny (model PR w) A (call (.builtin "sorted") [.ref d]) Q E s := by
  obtain ⟨kvs, hD, hv⟩ := T.dictOf ho
  obtain ⟨ep, hat⟩ := hD.dictAt
  refine kdu_sorted (kdl_dict (knd := PySem.strKind PR w) (kvs := kvs) (ep := ep) T.1) hh F N hat (kdl_size (by rw [hv.length]; omega)) fun B h' tk vs F' N' l1 hl hvv => ?_
  have hS : StrsAre vs (kvs.map (·.1)) := by
    refine kdy_strs (by rw [hl, List.length_map]) fun j v hj => ?_
    obtain ⟨k, x, hx, hk⟩ := hvv j v hj
    refine ⟨k, by rw [List.getElem?_map, hx]; rfl, ?_⟩
    cases v with
    | str y t =>
      have : y = k := by
        have hk' : Value.isStrOf k (.str y t) = true := hk
        unfold Value.isStrOf at hk'
        exact eq_of_beq hk'
      exact ⟨t, by rw [this]⟩
    | _ => exact absurd hk (by intro z; cases z)
  have hoL := (N' _ (.head _)).1
  have h64 : vs.length < 64 := by rw [hl, hv.length]; omega
  refine wpAny_call_entry slot_list_sort ⟨_, hoL, rfl⟩ entry_list_sort (list_sort_treeK strKind_oneLt hoL hS.keysOf (fun v₁ v₂ rest e => keyKind_strs (by rw [← e]; exact hS)) h64 fun st' hp hs => ⟨_, rfl, ?_⟩) (args_list_sort _)
  obtain ⟨ss', h1, h2, h3⟩ := sorted_out_str hS hp hs
  obtain ⟨e, he⟩ := sortedHeap_at (out := (arrOf st').map (·.2)) hoL
  have keep : ∀ b o, b ≠ B → h'.get? b = some o → (sortedHeap h' B vs ((arrOf st').map (·.2))).get? b = some o := fun b o q e => (sortedHeap_old q (Heap.lt_size e)).trans e
  have hB := N' _ (.head _)
  obtain ⟨oL, a1, a2, hL, a3⟩ := F'.ns
  refine h B _ tk ((arrOf st').map (·.2)).toList ss' e ⟨⟨oL, a1, a2, keep _ _ (Ne.symm hB.2.1) hL, a3⟩, fun b o q => keep b o (fun z => ?_) (F'.keep b o q), F'.above⟩ ?_ l1 h1 (by rw [← hv.keys]; exact h2) h3
  · rw [z, hB.2.2] at q; cases q
  · intro p hp
    rcases List.mem_cons.mp hp with rfl | hp
    · refine ⟨?_, hB.2⟩
      rw [Array.toArray_toList]; exact he
    · have hp' := N' p (.tail _ hp)
      exact ⟨keep _ _ (Nat.ne_of_lt (l1 p hp)) hp'.1, hp'.2⟩
end
end
section
theorem off_XS : True := by
  w_top off
  trivial
open PySem.Calls

def tstep (cs ck : Prs) (found p : Str) : Str :=
  if p ≠ Str.ofString "xml" ∧ lk ck p ≠ lk cs p then
    found ++ (if p = Str.ofString "" then Str.ofString " xmlns" else Str.ofString " xmlns:" ++ p) ++ Str.ofString "=\"" ++ canon ((lk cs p).getD (Str.ofString "")) ++ Str.ofString "\""
  else found
def tbase (cs ck : Prs) : Str := if (lk ck (Str.ofString "")).isSome = true ∧ (lk cs (Str.ofString "")).isSome = false then Str.ofString " xmlns=\"\"" else Str.ofString ""

theorem strs_at {vs : List Value} {ss : List Str} (h : StrsAre vs ss) {i : Nat} {v : Value} (e : vs[i]? = some v) : ∃ p t, v = .str p t ∧ ss[i]? = some p := by
  induction h generalizing i with
  | nil => simp at e
  | cons x t _ ih =>
    cases i with
    | zero => simp at e; exact ⟨x, t, e.symm, by simp⟩
    | succ i => obtain ⟨p, t, a, b⟩ := ih (by simpa using e); exact ⟨p, t, a, by simpa using b⟩
theorem nm_strs {P : Prop} {vs : List Value} {ss : List Str} (h : StrsAre vs ss) (k : ∀ a b, a = vs → b = ss → P) : P := k vs ss rfl rfl
theorem nm_news {P : Prop} {h₀ h : Heap} {L d : Addr} {vs : Array Value} {n : Nat} {l : Led} (N : News h₀ L h ((d, listOf vs n) :: l)) (k : ∀ a b, a = d → b = n → P) : P := k d n rfl rfl

theorem lk_of_mem : ∀ {c : Prs} {k : Str}, k ∈ c.map (·.1) → ∃ v, lk c k = some v ∧ (k, v) ∈ c
  | (a, b) :: r, k, h => by
    by_cases e : a = k
    · exact ⟨b, by simp [lk, e], by rw [e]; exact .head _⟩
    · have h' : k ∈ r.map (·.1) := by
        rcases List.mem_cons.mp (by simpa using h : k ∈ a :: r.map (·.1)) with q | q
        · exact absurd q.symm e
        · exact q
      obtain ⟨v, h1, h2⟩ := lk_of_mem h'
      exact ⟨v, by simpa [lk, e] using h1, .tail _ h2⟩

theorem k5_len {p : Str} (h : p ∈ K5) : p.length ≤ 3 := by
  simp only [K5, List.mem_cons, List.not_mem_nil, or_false] at h
  rcases h with h | h | h | h | h <;> subst h <;> decide +kernel
/-- what the first check of the law holds: its value "w" stands at "xml" alone -/
def V5 : List Str := [Str.ofString "u", Str.ofString "v", Str.ofString "a&b\"<\t", Str.ofString "w"]
def GoodT (c : Prs) : Prop := ∀ p ∈ c, p.1 ∈ K5 ∧ p.2 ∈ V5 ∧ (p.1 = Str.ofString "xml" ∨ p.2 ∈ V4)
theorem Good.toT {c : Prs} (h : Good c) : GoodT c := fun p hp => ⟨(h p hp).1, by
  have h2 := (h p hp).2
  simp only [V4, V5, List.mem_cons, List.not_mem_nil, or_false] at h2 ⊢
  rcases h2 with h | h | h | h <;> simp [h], .inr (h p hp).2⟩
theorem huv_of {p u : Str} (h : p = Str.ofString "xml" ∨ u ∈ V4) (hp : (p != Str.ofString "xml") = true) : u ∈ V4 := by
  rcases h with h | h
  · subst h; simp at hp
  · exact h
theorem canon_len {v : Str} (h : v ∈ V4) : (canon v).length ≤ 30 := by
  simp only [V4, List.mem_cons, List.not_mem_nil, or_false] at h
  rcases h with h | h | h | h <;> subst h <;> decide +kernel
theorem canon_len5 {v : Str} (h : v ∈ V5) : (canon v).length ≤ 30 := by
  simp only [V5, List.mem_cons, List.not_mem_nil, or_false] at h
  rcases h with h | h | h | h <;> subst h <;> decide +kernel
theorem ln1 : (Str.ofString " xmlns").length = 6 := by decide +kernel
theorem ln2 : (Str.ofString " xmlns:").length = 7 := by decide +kernel
theorem ln3 : (Str.ofString "=\"").length = 2 := by decide +kernel
theorem ln4 : (Str.ofString "\"").length = 1 := by decide +kernel
theorem ln5 : (Str.ofString " xmlns=\"\"").length = 9 := by decide +kernel
theorem ln6 : (Str.ofString "").length = 0 := by decide +kernel

theorem map_stored {x y : Str} {st : List Str} {v b : Value} {u m₀ : Str → Option Value} (hy : u y = some b) :
    (fun z => if z = x then some v else if (y :: st).contains z then u z else m₀ z) = fun z => if z = x then some v else if z = y then some b else if st.contains z then u z else m₀ z := by
  funext z
  by_cases h1 : z = x
  · simp [h1]
  · simp only [if_neg h1]
    by_cases h2 : z = y
    · subst h2; simp [hy]
    · have : (y :: st).contains z = st.contains z := by simp [h2]
      rw [this, if_neg h2]
theorem map_stored0 {x y : Str} {st : List Str} {b : Value} {u m₀ : Str → Option Value} (hy : u y = some b) :
    (fun z => if z = x then u z else if (y :: st).contains z then u z else m₀ z) = fun z => if z = x then u z else if z = y then some b else if st.contains z then u z else m₀ z := by
  funext z
  by_cases h1 : z = x
  · simp [h1]
  · simp only [if_neg h1]
    by_cases h2 : z = y
    · subst h2; simp [hy]
    · have : (y :: st).contains z = st.contains z := by simp [h2]
      rw [this, if_neg h2]

theorem nm_fr {P : Prop} {h₀ h : Heap} {L : Addr} {m : Str → Option Value} (F : Fr h₀ L h m) (k : ∀ m', m' = m → P) : P := k m rfl
theorem map_known {x : Str} {v : Value} {m' m₀ : Str → Option Value} (h1 : m' x = some v) (h2 : ∀ z, z ≠ x → m' z = m₀ z) : m' = fun z => if z = x then some v else m₀ z := by
  funext z
  by_cases e : z = x
  · subst e; simp [h1]
  · simp only [if_neg e]; exact h2 z e

theorem ts_on {cs ck : Prs} {f p u : Str} (h1 : (p != Str.ofString "xml") = true) (h2 : lk ck p ≠ some u) (h3 : lk cs p = some u) :
    tstep cs ck f p = f ++ (if p = Str.ofString "" then Str.ofString " xmlns" else Str.ofString " xmlns:" ++ p) ++ Str.ofString "=\"" ++ canon u ++ Str.ofString "\"" := by
  unfold tstep
  rw [if_pos ⟨bne_t h1, by rw [h3]; exact h2⟩, h3]; rfl
theorem ts_1 {cs ck : Prs} {f p u : Str} (h1 : (p != Str.ofString "xml") = true) (h2 : lk ck p = none) (h3 : lk cs p = some u) (h4 : (p == Str.ofString "") = true) :
    tstep cs ck f p = f ++ Str.ofString " xmlns" ++ Str.ofString "=\"" ++ canon u ++ Str.ofString "\"" := by
  rw [ts_on h1 (by rw [h2]; exact fun e => nomatch e) h3, if_pos (beq_t h4)]
theorem ts_2 {cs ck : Prs} {f p u : Str} (h1 : (p != Str.ofString "xml") = true) (h2 : lk ck p = none) (h3 : lk cs p = some u) (h4 : (p == Str.ofString "") = false) :
    tstep cs ck f p = f ++ (Str.ofString " xmlns:" ++ p) ++ Str.ofString "=\"" ++ canon u ++ Str.ofString "\"" := by
  rw [ts_on h1 (by rw [h2]; exact fun e => nomatch e) h3, if_neg (beq_f h4)]
theorem ts_3 {cs ck : Prs} {f p u x : Str} (h1 : (p != Str.ofString "xml") = true) (h2 : lk ck p = some x) (hx : (x != u) = true) (h3 : lk cs p = some u) (h4 : (p == Str.ofString "") = true) :
    tstep cs ck f p = f ++ Str.ofString " xmlns" ++ Str.ofString "=\"" ++ canon u ++ Str.ofString "\"" := by
  rw [ts_on h1 (by rw [h2]; exact fun e => bne_t hx (Option.some.inj e)) h3, if_pos (beq_t h4)]
theorem ts_4 {cs ck : Prs} {f p u x : Str} (h1 : (p != Str.ofString "xml") = true) (h2 : lk ck p = some x) (hx : (x != u) = true) (h3 : lk cs p = some u) (h4 : (p == Str.ofString "") = false) :
    tstep cs ck f p = f ++ (Str.ofString " xmlns:" ++ p) ++ Str.ofString "=\"" ++ canon u ++ Str.ofString "\"" := by
  rw [ts_on h1 (by rw [h2]; exact fun e => bne_t hx (Option.some.inj e)) h3, if_neg (beq_f h4)]
theorem ts_5 {cs ck : Prs} {f p u x : Str} (h2 : lk ck p = some x) (hx : (x != u) = false) (h3 : lk cs p = some u) : tstep cs ck f p = f := by
  unfold tstep
  rw [if_neg (fun h => h.2 (by rw [h2, h3, bne_f hx]))]
theorem ts_6 {cs ck : Prs} {f p : Str} (h1 : (p != Str.ofString "xml") = false) : tstep cs ck f p = f := by
  unfold tstep
  rw [if_neg (fun h => h.1 (bne_f h1))]
/-- a cut: what a statement leaves, when it goes on -/
def Cut (h₀ : Heap) (L : Addr) (s : Shared) (P : Heap → (Str → Option Value) → Prop) (f : Flow) (s' : Shared) : Prop :=
  f = .next ∧ ∃ h' tk' m', s' = { s with heap := h', toks := tk' } ∧ Fr h₀ L h' m' ∧ P h' m'
theorem Cut.intro {h₀ : Heap} {L : Addr} {s : Shared} {P : Heap → (Str → Option Value) → Prop} {h' : Heap} {tk' : Nat} {m' : Str → Option Value} (F : Fr h₀ L h' m') (hP : P h' m') : Cut h₀ L s P .next { s with heap := h', toks := tk' } := ⟨rfl, h', tk', m', rfl, F, hP⟩
theorem cut_at {prog : Program} {w : World} {A : Around} {E : Value → Shared → Prop} {s : Shared} {Q : Flow → Shared → Prop} {t : Sem Flow} {h₀ : Heap} {L : Addr} {s₀ : Shared} (P : Heap → (Str → Option Value) → Prop)
    (h1 : wpAny (model prog w) A t (Cut h₀ L s₀ P) E s) (h2 : ∀ h' tk' m', Fr h₀ L h' m' → P h' m' → Q .next { s₀ with heap := h', toks := tk' }) : wpAny (model prog w) A t Q E s :=
  wpAny_mono h1 (fun f s' h => by obtain ⟨rfl, h', tk', m', rfl, F, hP⟩ := h; exact h2 h' tk' m' F hP) fun _ _ x => x
theorem tbase_b {cs ck : Prs} (h1 : (lk ck (Str.ofString "")).isSome = true) (h2 : (lk cs (Str.ofString "")).isSome = false) : tbase cs ck = Str.ofString " xmlns=\"\"" := by unfold tbase; rw [if_pos ⟨h1, h2⟩]
theorem tbase_1 {cs ck : Prs} (h1 : (lk cs (Str.ofString "")).isSome = true) : tbase cs ck = Str.ofString "" := by unfold tbase; rw [if_neg (fun h => by rw [h1] at h; exact absurd h.2 (by decide))]
theorem tbase_2 {cs ck : Prs} (h1 : (lk ck (Str.ofString "")).isSome = false) : tbase cs ck = Str.ofString "" := by unfold tbase; rw [if_neg (fun h => by rw [h1] at h; exact absurd h.1 (by decide))]


theorem told_mc (w : World) {sd kd : Addr} {so ko : Obj} {cs ck : Prs} {led : Led} (hs : (sd, so) ∈ led) (hkd : (kd, ko) ∈ led) (Ts : TT w sd so cs) (Tk : TT w kd ko ck) (hG : GoodT cs) (hl : cs.length ≤ 5) :
    MC w 3 24 42 [.ref sd, .ref kd] led (fun r news' => ∃ (t : Tok) (ss : List Str), r = .str (ss.foldl (tstep cs ck) (tbase cs ck)) t ∧ ss.Perm (cs.map (·.1)) ∧ sortedS ss = true ∧ news' = led) := by
  have : (fun (_ : OpenLaw) (_ : Params → Frag) => True) PySem.Challenge.rw_xm0663_01 hd.heap_39 := by (k_fill; trivial)
  unfold MC
  intro mean mg mb dp un gd cn cs' a ccd cl outer A₀ base h₀ L m s Q E B F X N T hk hdp hun hret
  have hso := (N _ hs).1
  have hko := (N _ hkd).1
  dsimp only at hso hko
  refine wpAny_call ?_
  k_dflt (
    refine' code_keep ?k1 ?k2 ?k3 ?k4 ?k5 ?kA ?kF ?kK ?k6 ?k7 ?k8 ?k9 ?kB ?_ ?c2 ?c3 ?c4 ?c5
    (case kA => exact rfl)
    (case kF => exact rfl)
    (case kK => first | exact rfl | assumption)
    (case k1 => k_asm)
    (case k2 => k_asm)
    (case k3 => k_asm)
    (case k4 => k_asm)
    (case k5 => k_asm)
    (case k6 => k_is)
    (case k7 => k_is)
    (case k8 => ktr_room)
    (case k9 => exact BindsTo.of_eq rfl)
    (case c5 => decide)
    (case kB => exact locs rfl)
    (case c2 => exact rfl)
    (case c3 => exact rfl)
    (case c4 => exact rfl)
    k_whole
    intro L' h' F' N' B' X' T'
    (try dsimp only)
    (try k_lift B')
    (try k_fold))
  show let A₁ : Around := _; wpAny _ A₁ _ _ _ _
  intro A₁
  show let e₁ : Env := _; wpAny _ _ (execs _ e₁) _ _ _
  intro e₁
  clear N
  rename Fr s.heap _ _ _ => F0
  refine nm_fr F0 fun m0 em0 => ?_
  repeat' ((fail_if_success (with_reducible show wpAny _ _ (exec (Stmt.If _ _ _ _) _) _ _ _)); (first | (k_unfold; (try dsimp only)) | (k_end; wrow_close) | ((with_reducible show wpAny _ _ (call (Value.ref _) _) _ _ _); k_here; (with_reducible show wpAny _ _ (call (Value.ref 35) _) _ _ _); k_dflt (refine' MC.use2 (canon_mc _ ?hv) ?_; (case hv => first | assumption | exact huv_of (by assumption) (by assumption)); intro zr9 znews9 zh9 ztk9 zF9 zN9 zhR9; obtain ⟨zt9, ze9, zel9⟩ := zhR9; subst ze9; subst zel9; (try k_sweep); (try dsimp only); (try k_fold))) | ((with_reducible show wpAny _ _ (binaryOp .Add (Value.str _ _) (Value.str _ _)) _ _ _); k_here; (refine add_str ?_ ?kz); (case kz => (rw [sizeLine_eq]; (try simp only [Str.length_append, ln1, ln2, ln3, ln4, ln5, ln6]); omega)); intro _ _) | ((with_reducible show wpAny _ _ (call (Value.builtin "sorted") _) _ _ _); k_here; k_dflt (refine th_sorted (by rfl) (by k_asm) (by k_asm) (Fr.keep (by k_asm) _ _ (by assumption)) (by assumption) (by omega) ?_); intro zBq zhq ztkq zvsq zssq zeq zFq zNq zl1 zhS zhP zhsr) | ((with_reducible show wpAny _ _ (subscriptTail _ _ (Value.ref _) _) _ _ _); k_here; (with_reducible show wpAny _ _ (subscriptTail _ _ (Value.ref _) (Value.str _ _)) _ _ _); k_dflt (refine th_item (Fr.keep (by k_asm) _ _ (by assumption)) (by assumption) (by assumption) ?_); intro _) | ((with_reducible show wpAny _ _ (call (Value.builtin "dict.get") _) _ _ _); k_here; k_dflt (refine th_get1 (Fr.keep (by k_asm) _ _ (by assumption)) (by assumption) (fun _ => ?_) (fun _ _ _ => ?_))) | ((with_reducible show wpAny _ _ (getMethod (Value.ref _) _ _) _ _ _); k_here; (with_reducible show wpAny _ _ (getMethod (Value.ref _) (Str.ofString "get") _) _ _ _); k_dflt (refine th_meth (Fr.keep (by k_asm) _ _ (by assumption)) (by assumption) ?_)) | ((with_reducible show wpAny _ _ (compareOp CmpOp.NotIn (Value.str _ _) (Value.ref _)) _ _ _); k_here; k_dflt (refine th_notin (Fr.keep (by k_asm) _ _ (by assumption)) (by assumption) ?_)) | ((with_reducible show wpAny _ _ (compareOp CmpOp.In (Value.str _ _) (Value.ref _)) _ _ _); k_here; k_dflt (refine th_in (Fr.keep (by k_asm) _ _ (by assumption)) (by assumption) ?_)) | (walk1 <;> (try ((with_reducible show wpAny _ _ (exec _ _) _ _ _); k_fold))) | (dsimp only; walk1) | (leave1; (try dsimp only))))
  refine cut_at (s₀ := s) (h₀ := s.heap) (L := L') (fun h' m' => News s.heap L' h' [] ∧ ∃ t, m' (Str.ofString "found") = some (.str (tbase cs ck) t) ∧ ∀ z, z ≠ Str.ofString "found" → m' z = m0 z) ?_ ?_
  · repeat' (first | (k_unfold; (try dsimp only)) | (k_end; wrow_close) | ((with_reducible show wpAny _ _ (call (Value.ref _) _) _ _ _); k_here; (with_reducible show wpAny _ _ (call (Value.ref 35) _) _ _ _); k_dflt (refine' MC.use2 (canon_mc _ ?hv) ?_; (case hv => first | assumption | exact huv_of (by assumption) (by assumption)); intro zr9 znews9 zh9 ztk9 zF9 zN9 zhR9; obtain ⟨zt9, ze9, zel9⟩ := zhR9; subst ze9; subst zel9; (try k_sweep); (try dsimp only); (try k_fold))) | ((with_reducible show wpAny _ _ (binaryOp .Add (Value.str _ _) (Value.str _ _)) _ _ _); k_here; (refine add_str ?_ ?kz); (case kz => (rw [sizeLine_eq]; (try simp only [Str.length_append, ln1, ln2, ln3, ln4, ln5, ln6]); omega)); intro _ _) | ((with_reducible show wpAny _ _ (call (Value.builtin "sorted") _) _ _ _); k_here; k_dflt (refine th_sorted (by rfl) (by k_asm) (by k_asm) (Fr.keep (by k_asm) _ _ (by assumption)) (by assumption) (by omega) ?_); intro zBq zhq ztkq zvsq zssq zeq zFq zNq zl1 zhS zhP zhsr) | ((with_reducible show wpAny _ _ (subscriptTail _ _ (Value.ref _) _) _ _ _); k_here; (with_reducible show wpAny _ _ (subscriptTail _ _ (Value.ref _) (Value.str _ _)) _ _ _); k_dflt (refine th_item (Fr.keep (by k_asm) _ _ (by assumption)) (by assumption) (by assumption) ?_); intro _) | ((with_reducible show wpAny _ _ (call (Value.builtin "dict.get") _) _ _ _); k_here; k_dflt (refine th_get1 (Fr.keep (by k_asm) _ _ (by assumption)) (by assumption) (fun _ => ?_) (fun _ _ _ => ?_))) | ((with_reducible show wpAny _ _ (getMethod (Value.ref _) _ _) _ _ _); k_here; (with_reducible show wpAny _ _ (getMethod (Value.ref _) (Str.ofString "get") _) _ _ _); k_dflt (refine th_meth (Fr.keep (by k_asm) _ _ (by assumption)) (by assumption) ?_)) | ((with_reducible show wpAny _ _ (compareOp CmpOp.NotIn (Value.str _ _) (Value.ref _)) _ _ _); k_here; k_dflt (refine th_notin (Fr.keep (by k_asm) _ _ (by assumption)) (by assumption) ?_)) | ((with_reducible show wpAny _ _ (compareOp CmpOp.In (Value.str _ _) (Value.ref _)) _ _ _); k_here; k_dflt (refine th_in (Fr.keep (by k_asm) _ _ (by assumption)) (by assumption) ?_)) | (walk1 <;> (try ((with_reducible show wpAny _ _ (exec _ _) _ _ _); k_fold))) | (dsimp only; walk1) | (leave1; (try dsimp only)))
    all_goals refine Cut.intro (by k_asm) ⟨by k_asm, ?_⟩
    all_goals first
      | exact ⟨_, by rw [tbase_b (by assumption) (by assumption)]; exact rfl, fun z hz => by rw [em0]; simp only [if_neg hz]⟩
      | exact ⟨_, by rw [tbase_1 (by assumption)]; exact rfl, fun z hz => by rw [em0]; simp only [if_neg hz]⟩
      | exact ⟨_, by rw [tbase_2 (by assumption)]; exact rfl, fun z hz => by rw [em0]; simp only [if_neg hz]⟩
  · rintro h' tk' m' F1 ⟨N1, t, hf, hz⟩
    have e1 := map_known hf hz
    rw [em0] at e1
    subst e1
    (try dsimp only)
    repeat' ((fail_if_success (with_reducible show wpAny _ _ (pyIter (Value.ref _)) _ _ _)); (first | (k_unfold; (try dsimp only)) | (k_end; wrow_close) | ((with_reducible show wpAny _ _ (call (Value.ref _) _) _ _ _); k_here; (with_reducible show wpAny _ _ (call (Value.ref 35) _) _ _ _); k_dflt (refine' MC.use2 (canon_mc _ ?hv) ?_; (case hv => first | assumption | exact huv_of (by assumption) (by assumption)); intro zr9 znews9 zh9 ztk9 zF9 zN9 zhR9; obtain ⟨zt9, ze9, zel9⟩ := zhR9; subst ze9; subst zel9; (try k_sweep); (try dsimp only); (try k_fold))) | ((with_reducible show wpAny _ _ (binaryOp .Add (Value.str _ _) (Value.str _ _)) _ _ _); k_here; (refine add_str ?_ ?kz); (case kz => (rw [sizeLine_eq]; (try simp only [Str.length_append, ln1, ln2, ln3, ln4, ln5, ln6]); omega)); intro _ _) | ((with_reducible show wpAny _ _ (call (Value.builtin "sorted") _) _ _ _); k_here; k_dflt (refine th_sorted (by rfl) (by k_asm) (by k_asm) (Fr.keep (by k_asm) _ _ (by assumption)) (by assumption) (by omega) ?_); intro zBq zhq ztkq zvsq zssq zeq zFq zNq zl1 zhS zhP zhsr) | ((with_reducible show wpAny _ _ (subscriptTail _ _ (Value.ref _) _) _ _ _); k_here; (with_reducible show wpAny _ _ (subscriptTail _ _ (Value.ref _) (Value.str _ _)) _ _ _); k_dflt (refine th_item (Fr.keep (by k_asm) _ _ (by assumption)) (by assumption) (by assumption) ?_); intro _) | ((with_reducible show wpAny _ _ (call (Value.builtin "dict.get") _) _ _ _); k_here; k_dflt (refine th_get1 (Fr.keep (by k_asm) _ _ (by assumption)) (by assumption) (fun _ => ?_) (fun _ _ _ => ?_))) | ((with_reducible show wpAny _ _ (getMethod (Value.ref _) _ _) _ _ _); k_here; (with_reducible show wpAny _ _ (getMethod (Value.ref _) (Str.ofString "get") _) _ _ _); k_dflt (refine th_meth (Fr.keep (by k_asm) _ _ (by assumption)) (by assumption) ?_)) | ((with_reducible show wpAny _ _ (compareOp CmpOp.NotIn (Value.str _ _) (Value.ref _)) _ _ _); k_here; k_dflt (refine th_notin (Fr.keep (by k_asm) _ _ (by assumption)) (by assumption) ?_)) | ((with_reducible show wpAny _ _ (compareOp CmpOp.In (Value.str _ _) (Value.ref _)) _ _ _); k_here; k_dflt (refine th_in (Fr.keep (by k_asm) _ _ (by assumption)) (by assumption) ?_)) | (walk1 <;> (try ((with_reducible show wpAny _ _ (exec _ _) _ _ _); k_fold))) | (dsimp only; walk1) | (leave1; (try dsimp only))))
    rename StrsAre _ _ => hS
    refine nm_strs hS fun vs ss ev es => ?_
    subst ev; subst es
    rename List.Perm _ _ => hP
    rename sortedS _ = true => hsr
    rename Fr _ _ _ _ => F1
    rename News _ _ _ _ => N1
    refine nm_news N1 fun B e eB ee => ?_
    subst eB; subst ee
    have hlen : ss.length ≤ 5 := by rw [hP.length_eq, List.length_map]; exact hl
    have hlvs := StrsAre.length hS
    refine list_inv [Str.ofString "found", Str.ofString "name"] (fun i u nx => ∃ (t : Tok) (f : Str), u (Str.ofString "found") = some (.str f t) ∧ f = (ss.take i).foldl (tstep cs ck) (tbase cs ck) ∧ f.length ≤ 50 + 60 * i ∧ nx = [(B, listOf vs.toArray e)])
      (by rfl) F1 N1 (.head _) ⟨_, _, rfl, rfl, ?len, rfl⟩ ?turn ?done
    case len => unfold tbase; split <;> decide +kernel
    case turn =>
      intro I i v u h tk nx it hv hJ hI hlp hc F2 N2
      obtain ⟨tf, f, huf, hf, hfl, rfl⟩ := hJ
      obtain ⟨p, tp, rfl, hp⟩ := strs_at hS hv
      obtain ⟨uu, hlu, hmem⟩ := lk_of_mem (hP.mem_iff.mp (List.mem_of_getElem? hp))
      have hpK := (hG _ hmem).1
      have huV := (hG _ hmem).2.1
      have huX := (hG _ hmem).2.2
      have hpl := k5_len hpK
      have hcl := canon_len5 huV
      dsimp only at hpK huV huX hpl hcl
      have hi : i < ss.length := (List.getElem?_eq_some_iff.mp hp).1
      have hstep : (ss.take (i + 1)).foldl (tstep cs ck) (tbase cs ck) = tstep cs ck f p := by
        rw [List.take_add_one, hp, Option.toList_some, List.foldl_append, ← hf]; rfl
      rw [map_stored huf] at F2
      clear F1 N1
      repeat' (first | (k_unfold; (try dsimp only)) | (k_end; wrow_close) | ((with_reducible show wpAny _ _ (call (Value.ref _) _) _ _ _); k_here; (with_reducible show wpAny _ _ (call (Value.ref 35) _) _ _ _); k_dflt (refine' MC.use2 (canon_mc _ ?hv) ?_; (case hv => first | assumption | exact huv_of (by assumption) (by assumption)); intro zr9 znews9 zh9 ztk9 zF9 zN9 zhR9; obtain ⟨zt9, ze9, zel9⟩ := zhR9; subst ze9; subst zel9; (try k_sweep); (try dsimp only); (try k_fold))) | ((with_reducible show wpAny _ _ (binaryOp .Add (Value.str _ _) (Value.str _ _)) _ _ _); k_here; (refine add_str ?_ ?kz); (case kz => (rw [sizeLine_eq]; (try simp only [Str.length_append, ln1, ln2, ln3, ln4, ln5, ln6]); omega)); intro _ _) | ((with_reducible show wpAny _ _ (call (Value.builtin "sorted") _) _ _ _); k_here; k_dflt (refine th_sorted (by rfl) (by k_asm) (by k_asm) (Fr.keep (by k_asm) _ _ (by assumption)) (by assumption) (by omega) ?_); intro zBq zhq ztkq zvsq zssq zeq zFq zNq zl1 zhS zhP zhsr) | ((with_reducible show wpAny _ _ (subscriptTail _ _ (Value.ref _) _) _ _ _); k_here; (with_reducible show wpAny _ _ (subscriptTail _ _ (Value.ref _) (Value.str _ _)) _ _ _); k_dflt (refine th_item (Fr.keep (by k_asm) _ _ (by assumption)) (by assumption) (by assumption) ?_); intro _) | ((with_reducible show wpAny _ _ (call (Value.builtin "dict.get") _) _ _ _); k_here; k_dflt (refine th_get1 (Fr.keep (by k_asm) _ _ (by assumption)) (by assumption) (fun _ => ?_) (fun _ _ _ => ?_))) | ((with_reducible show wpAny _ _ (getMethod (Value.ref _) _ _) _ _ _); k_here; (with_reducible show wpAny _ _ (getMethod (Value.ref _) (Str.ofString "get") _) _ _ _); k_dflt (refine th_meth (Fr.keep (by k_asm) _ _ (by assumption)) (by assumption) ?_)) | ((with_reducible show wpAny _ _ (compareOp CmpOp.NotIn (Value.str _ _) (Value.ref _)) _ _ _); k_here; k_dflt (refine th_notin (Fr.keep (by k_asm) _ _ (by assumption)) (by assumption) ?_)) | ((with_reducible show wpAny _ _ (compareOp CmpOp.In (Value.str _ _) (Value.ref _)) _ _ _); k_here; k_dflt (refine th_in (Fr.keep (by k_asm) _ _ (by assumption)) (by assumption) ?_)) | (walk1 <;> (try ((with_reducible show wpAny _ _ (exec _ _) _ _ _); k_fold))) | (dsimp only; walk1) | (leave1; (try dsimp only)))
      all_goals refine LPost.next (by k_asm) (by k_asm) [(B, listOf vs.toArray e)] (fun p hp => hp) hI ⟨.head _, ⟨_, _, rfl, ?_, ?_, rfl⟩, fun z h1 h2 => ?_⟩
      all_goals first
        | with_reducible exact (hstep.trans (ts_1 (by assumption) (by assumption) hlu (by assumption))).symm
        | with_reducible exact (hstep.trans (ts_2 (by assumption) (by assumption) hlu (by assumption))).symm
        | with_reducible exact (hstep.trans (ts_3 (by assumption) (by assumption) (by assumption) hlu (by assumption))).symm
        | with_reducible exact (hstep.trans (ts_4 (by assumption) (by assumption) (by assumption) hlu (by assumption))).symm
        | with_reducible exact (hstep.trans (ts_5 (by assumption) (by assumption) hlu)).symm
        | with_reducible exact (hstep.trans (ts_6 (by assumption))).symm
        | (simp only [Str.length_append, ln1, ln2, ln3, ln4]; omega)
        | omega
        | (obtain ⟨h3, h4⟩ := contains_f h2
           obtain ⟨h5, _⟩ := contains_f h4
           simp only [if_neg h1, if_neg h3, if_neg h5, h4, Bool.false_eq_true, if_false]
           done)
    case done =>
      intro u nx h tk hJ hlp F2 N2
      obtain ⟨tf, f, huf, hf, hfl, rfl⟩ := hJ
      rw [map_stored0 huf] at F2
      rw [hlvs, List.take_length] at hf
      subst hf
      clear F1 N1
      repeat' (first | (k_unfold; (try dsimp only)) | (k_end; wrow_close) | ((with_reducible show wpAny _ _ (call (Value.ref _) _) _ _ _); k_here; (with_reducible show wpAny _ _ (call (Value.ref 35) _) _ _ _); k_dflt (refine' MC.use2 (canon_mc _ ?hv) ?_; (case hv => first | assumption | exact huv_of (by assumption) (by assumption)); intro zr9 znews9 zh9 ztk9 zF9 zN9 zhR9; obtain ⟨zt9, ze9, zel9⟩ := zhR9; subst ze9; subst zel9; (try k_sweep); (try dsimp only); (try k_fold))) | ((with_reducible show wpAny _ _ (binaryOp .Add (Value.str _ _) (Value.str _ _)) _ _ _); k_here; (refine add_str ?_ ?kz); (case kz => (rw [sizeLine_eq]; (try simp only [Str.length_append, ln1, ln2, ln3, ln4, ln5, ln6]); omega)); intro _ _) | ((with_reducible show wpAny _ _ (call (Value.builtin "sorted") _) _ _ _); k_here; k_dflt (refine th_sorted (by rfl) (by k_asm) (by k_asm) (Fr.keep (by k_asm) _ _ (by assumption)) (by assumption) (by omega) ?_); intro zBq zhq ztkq zvsq zssq zeq zFq zNq zl1 zhS zhP zhsr) | ((with_reducible show wpAny _ _ (subscriptTail _ _ (Value.ref _) _) _ _ _); k_here; (with_reducible show wpAny _ _ (subscriptTail _ _ (Value.ref _) (Value.str _ _)) _ _ _); k_dflt (refine th_item (Fr.keep (by k_asm) _ _ (by assumption)) (by assumption) (by assumption) ?_); intro _) | ((with_reducible show wpAny _ _ (call (Value.builtin "dict.get") _) _ _ _); k_here; k_dflt (refine th_get1 (Fr.keep (by k_asm) _ _ (by assumption)) (by assumption) (fun _ => ?_) (fun _ _ _ => ?_))) | ((with_reducible show wpAny _ _ (getMethod (Value.ref _) _ _) _ _ _); k_here; (with_reducible show wpAny _ _ (getMethod (Value.ref _) (Str.ofString "get") _) _ _ _); k_dflt (refine th_meth (Fr.keep (by k_asm) _ _ (by assumption)) (by assumption) ?_)) | ((with_reducible show wpAny _ _ (compareOp CmpOp.NotIn (Value.str _ _) (Value.ref _)) _ _ _); k_here; k_dflt (refine th_notin (Fr.keep (by k_asm) _ _ (by assumption)) (by assumption) ?_)) | ((with_reducible show wpAny _ _ (compareOp CmpOp.In (Value.str _ _) (Value.ref _)) _ _ _); k_here; k_dflt (refine th_in (Fr.keep (by k_asm) _ _ (by assumption)) (by assumption) ?_)) | (walk1 <;> (try ((with_reducible show wpAny _ _ (exec _ _) _ _ _); k_fold))) | (dsimp only; walk1) | (leave1; (try dsimp only)))
      refine hret _ led _ _ (by k_asm) (by assumption) ⟨_, ss, rfl, hP, hsr, rfl⟩
end
section
open PySem.Calls
inductive PairsAt (led : Led) : List Value → Prs → Prop
  | nil : PairsAt led [] []
  | cons {vs : List Value} {c : Prs} {t : Addr} {p u : Str} {tp tu : Tok} {nt : Nat} : (t, ({ cls := .type "tuple", data := .seq #[.str p tp, .str u tu] nt } : Obj)) ∈ led → PairsAt led vs c → PairsAt led (.ref t :: vs) ((p, u) :: c)
theorem PairsAt.len {led : Led} {vs : List Value} {c : Prs} (h : PairsAt led vs c) : vs.length = c.length := by
  induction h with
  | nil => rfl
  | cons _ _ ih => simp [ih]
theorem PairsAt.at {led : Led} {vs : List Value} {c : Prs} (h : PairsAt led vs c) : ∀ {i : Nat} {v : Value}, vs[i]? = some v → ∃ t p u tp tu nt, v = .ref t ∧ c[i]? = some (p, u) ∧ (t, ({ cls := .type "tuple", data := .seq #[.str p tp, .str u tu] nt } : Obj)) ∈ led := by
  induction h with
  | nil => intro i v e; simp at e
  | @cons vs c t p u tp tu nt hm _ ih =>
    intro i v e
    cases i with
    | zero => simp at e; exact ⟨t, p, u, tp, tu, nt, e.symm, by simp, hm⟩
    | succ i => obtain ⟨t', p', u', a, b, n, e1, e2, e3⟩ := ih (by simpa using e); exact ⟨t', p', u', a, b, n, e1, by simpa using e2, e3⟩
theorem PairsAt.mono {led led' : Led} {vs : List Value} {c : Prs} (h : PairsAt led vs c) (hs : ∀ p ∈ led, p ∈ led') : PairsAt led' vs c := by
  induction h with
  | nil => exact .nil
  | cons hm _ ih => exact .cons (hs _ hm) ih
theorem PairsAt.snoc {led : Led} {vs : List Value} {c : Prs} {t : Addr} {p u : Str} {tp tu : Tok} {nt : Nat} (h : PairsAt led vs c) (hm : (t, ({ cls := .type "tuple", data := .seq #[.str p tp, .str u tu] nt } : Obj)) ∈ led) : PairsAt led (vs ++ [.ref t]) (c ++ [(p, u)]) := by
  induction h with
  | nil => exact .cons hm .nil
  | cons hm' _ ih => exact .cons hm' ih
end
section
theorem off_XU : True := by
  w_top off
  trivial
open PySem.Calls

def TX : Prs := [(Str.ofString "u", Str.ofString "u"), (Str.ofString "v", Str.ofString "v"), (Str.ofString "a&b\"<\t", Str.ofString "a&amp;b&quot;&lt;&#x9;")]

theorem lk_mem : ∀ {c : Prs} {k v : Str}, lk c k = some v → (k, v) ∈ c
  | (a, b) :: r, k, v, h => by
    by_cases e : a = k
    · have : b = v := by simpa [lk, e] using h
      rw [← e, ← this]; exact .head _
    · exact .tail _ (lk_mem (by simpa [lk, e] using h))
theorem tx_v {u : Str} (h : u ∈ V4) : lk TX u = some (canon u) := by
  simp only [V4, List.mem_cons, List.not_mem_nil, or_false] at h
  rcases h with h | h | h | h <;> subst h <;> decide +kernel
def lbase (cs ck : Prs) : List Str := if (lk ck (Str.ofString "")).isSome = true ∧ (lk cs (Str.ofString "")).isSome = false then [Str.ofString " xmlns=\"\""] else []
theorem lbase_b {cs ck : Prs} (h1 : (lk ck (Str.ofString "")).isSome = true) (h2 : (lk cs (Str.ofString "")).isSome = false) : lbase cs ck = [Str.ofString " xmlns=\"\""] := by unfold lbase; rw [if_pos ⟨h1, h2⟩]
theorem lbase_1 {cs ck : Prs} (h1 : (lk cs (Str.ofString "")).isSome = true) : lbase cs ck = [] := by unfold lbase; rw [if_neg (fun h => by rw [h1] at h; exact absurd h.2 (by decide))]
theorem lbase_2 {cs ck : Prs} (h1 : (lk ck (Str.ofString "")).isSome = false) : lbase cs ck = [] := by unfold lbase; rw [if_neg (fun h => by rw [h1] at h; exact absurd h.1 (by decide))]
theorem lbase_len (cs ck : Prs) : (lbase cs ck).length ≤ 1 := by unfold lbase; split <;> simp
def lpiece (cs : Prs) (p nm : Str) : Str := nm ++ Str.ofString "\"" ++ canon ((lk cs p).getD (Str.ofString "")) ++ Str.ofString "\""
def lstep (cs ck : Prs) (xs : List Str) (p nm : Str) : List Str := if (lk cs p).isSome = true ∧ lk ck p ≠ lk cs p then xs ++ [lpiece cs p nm] else xs
theorem lstep_len (cs ck : Prs) (xs : List Str) (p nm : Str) : (lstep cs ck xs p nm).length ≤ xs.length + 1 := by unfold lstep; split <;> simp
theorem lstep_0 {cs ck : Prs} {xs : List Str} {p nm : Str} (h : lk cs p = none) : lstep cs ck xs p nm = xs := by unfold lstep; rw [if_neg (fun q => by rw [h] at q; exact absurd q.1 (by decide))]
theorem lstep_1 {cs ck : Prs} {xs : List Str} {p nm u : Str} (h : lk cs p = some u) (h2 : lk ck p = none) : lstep cs ck xs p nm = xs ++ [nm ++ Str.ofString "\"" ++ canon u ++ Str.ofString "\""] := by
  unfold lstep lpiece; rw [if_pos ⟨by rw [h]; rfl, by rw [h, h2]; exact fun e => nomatch e⟩, h]; rfl
theorem lstep_2 {cs ck : Prs} {xs : List Str} {p nm u x : Str} (h : lk cs p = some u) (h2 : lk ck p = some x) (hx : (x != u) = true) : lstep cs ck xs p nm = xs ++ [nm ++ Str.ofString "\"" ++ canon u ++ Str.ofString "\""] := by
  unfold lstep lpiece; rw [if_pos ⟨by rw [h]; rfl, by rw [h, h2]; exact fun e => bne_t hx (Option.some.inj e)⟩, h]; rfl
theorem lstep_3 {cs ck : Prs} {xs : List Str} {p nm u x : Str} (h : lk cs p = some u) (h2 : lk ck p = some x) (hx : (x != u) = false) : lstep cs ck xs p nm = xs := by
  unfold lstep; rw [if_neg (fun q => q.2 (by rw [h, h2, bne_f hx]))]
def lall (cs ck : Prs) : List Str :=
  lstep cs ck (lstep cs ck (lstep cs ck (lstep cs ck (lbase cs ck) (Str.ofString "") (Str.ofString " xmlns=")) (Str.ofString "a") (Str.ofString " xmlns:a=")) (Str.ofString "p") (Str.ofString " xmlns:p=")) (Str.ofString "q") (Str.ofString " xmlns:q=")
def wgt (xs : List Str) : Nat := (xs.map (·.length)).sum + xs.length
theorem lm1 : (Str.ofString " xmlns=").length = 7 := by decide +kernel
theorem lm2 : (Str.ofString " xmlns:a=").length = 9 := by decide +kernel
theorem lm3 : (Str.ofString " xmlns:p=").length = 9 := by decide +kernel
theorem lm4 : (Str.ofString " xmlns:q=").length = 9 := by decide +kernel
theorem wgt_step {cs ck : Prs} {xs : List Str} {p nm : Str} {n : Nat} (hG : Good cs) (hx : wgt xs ≤ n) (hn : nm.length ≤ 9) : wgt (lstep cs ck xs p nm) ≤ n + 60 := by
  cases h : lk cs p with
  | none => rw [lstep_0 h]; omega
  | some u =>
    have hu := canon_len (hG _ (lk_mem h)).2
    have hw : wgt (xs ++ [lpiece cs p nm]) ≤ n + 60 := by
      unfold wgt at *
      simp only [List.map_append, List.sum_append, List.map_cons, List.map_nil, List.sum_cons, List.sum_nil, List.length_append, List.length_cons, List.length_nil, lpiece, h, Option.getD_some, Str.length_append, ln4] at *
      omega
    unfold lstep
    split
    · exact hw
    · omega
theorem wgt_base (cs ck : Prs) : wgt (lbase cs ck) ≤ 10 := by
  unfold lbase wgt
  split
  · simp only [List.map_cons, List.map_nil, List.sum_cons, List.sum_nil, List.length_cons, List.length_nil, ln5]; omega
  · simp
theorem wgt_all {cs ck : Prs} (hG : Good cs) : wgt (lall cs ck) ≤ 10 + 60 + 60 + 60 + 60 :=
  wgt_step hG (wgt_step hG (wgt_step hG (wgt_step hG (wgt_base cs ck) (by rw [lm1]; decide)) (by rw [lm2]; decide)) (by rw [lm3]; decide)) (by rw [lm4]; decide)
theorem nm_led0 {P : Prop} {h₀ h : Heap} {L : Addr} {l : Led} (N : News h₀ L h l) (k : ∀ l', l' = l → P) : P := k l rfl

section
variable {w : World} {A : Around} {E : Value → Shared → Prop} {s : Shared} {h₀ : Heap} {L d : Addr} {o : Obj} {c : Prs} {k v : Str} {tk tv : Tok}
theorem th_in1 {Q : Value → Shared → Prop} (ho : s.heap.get? d = some o) (T : TT w d o c) (e : lk c k = some v) (h : Q (.bool true) { s with toks := s.toks + 1 }) :
    wpAny (model PR w) A (compareOp .In (.str k tk) (.ref d)) Q E s := th_in ho T (by rw [e]; exact h)
theorem th_in0 {Q : Value → Shared → Prop} (ho : s.heap.get? d = some o) (T : TT w d o c) (e : lk c k = none) (h : Q (.bool false) { s with toks := s.toks + 1 }) :
    wpAny (model PR w) A (compareOp .In (.str k tk) (.ref d)) Q E s := th_in ho T (by rw [e]; exact h)
theorem th_notin1 {Q : Value → Shared → Prop} (ho : s.heap.get? d = some o) (T : TT w d o c) (e : lk c k = some v) (h : Q (.bool false) { s with toks := s.toks + 1 }) :
    wpAny (model PR w) A (compareOp .NotIn (.str k tk) (.ref d)) Q E s := th_notin ho T (by rw [e]; exact h)
theorem th_notin0 {Q : Value → Shared → Prop} (ho : s.heap.get? d = some o) (T : TT w d o c) (e : lk c k = none) (h : Q (.bool true) { s with toks := s.toks + 1 }) :
    wpAny (model PR w) A (compareOp .NotIn (.str k tk) (.ref d)) Q E s := th_notin ho T (by rw [e]; exact h)
end



def PN : Prs := [(Str.ofString "", Str.ofString " xmlns="), (Str.ofString "a", Str.ofString " xmlns:a="), (Str.ofString "p", Str.ofString " xmlns:p="), (Str.ofString "q", Str.ofString " xmlns:q=")]
def lfold (cs ck : Prs) (i : Nat) : List Str := (PN.take i).foldl (fun acc q => lstep cs ck acc q.1 q.2) (lbase cs ck)
theorem pn_len {q : Str × Str} (h : q ∈ PN) : q.2.length ≤ 9 := by
  simp only [PN, List.mem_cons, List.not_mem_nil, or_false] at h
  rcases h with h | h | h | h <;> subst h <;> decide +kernel
theorem lfold_len (cs ck : Prs) : ∀ i, (lfold cs ck i).length ≤ 1 + i
  | 0 => lbase_len cs ck
  | i + 1 => by
    unfold lfold
    rw [List.take_add_one]
    cases h : PN[i]? with
    | none =>
      rw [Option.toList_none, List.append_nil]
      exact Nat.le_succ_of_le (lfold_len cs ck i)
    | some q =>
      rw [Option.toList_some, List.foldl_append]
      exact Nat.le_trans (lstep_len _ _ _ _ _) (Nat.succ_le_succ (lfold_len cs ck i))
theorem lfold_next {cs ck : Prs} {i : Nat} {p nm : Str} (h : PN[i]? = some (p, nm)) : lfold cs ck (i + 1) = lstep cs ck (lfold cs ck i) p nm := by
  unfold lfold
  rw [List.take_add_one, h, Option.toList_some, List.foldl_append]; rfl
abbrev tup2 (p u : Str) (tp tu : Tok) : Obj := { cls := .type "tuple", data := .seq #[.str p tp, .str u tu] }
theorem nmU {P : Prop} {h₀ h : Heap} {L lp d1 d2 d3 d4 fd xd : Addr} {ln n : Nat} {p1 p2 p3 p4 u1 u2 u3 u4 : Str} {a1 a2 a3 a4 b1 b2 b3 b4 : Tok} {vs : List Value} {ox : Obj}
    (N : News h₀ L h [(lp, listOf #[.ref d1, .ref d2, .ref d3, .ref d4] ln), (d4, tup2 p4 u4 a4 b4), (d3, tup2 p3 u3 a3 b3), (d2, tup2 p2 u2 a2 b2), (d1, tup2 p1 u1 a1 b1), (fd, listOf vs.toArray n), (xd, ox)])
    (hx : xd < fd) (h1 : fd < d1) (h2 : fd < d2) (h3 : fd < d3) (h4 : fd < d4) (hl : fd < lp)
    (k : ∀ vl ln' base lp', News h₀ L h ((fd, listOf vs.toArray n) :: base) → (lp', listOf vl.toArray ln') ∈ base → PairsAt base vl [(p1, u1), (p2, u2), (p3, u3), (p4, u4)] → (xd, ox) ∈ base → (∀ p ∈ base, p.1 ≠ fd) → lp' = lp → P) : P := by
  refine k [.ref d1, .ref d2, .ref d3, .ref d4] ln [(lp, listOf #[.ref d1, .ref d2, .ref d3, .ref d4] ln), (d4, tup2 p4 u4 a4 b4), (d3, tup2 p3 u3 a3 b3), (d2, tup2 p2 u2 a2 b2), (d1, tup2 p1 u1 a1 b1), (xd, ox)] lp ?_ (.head _)
    (.cons (.tail _ (.tail _ (.tail _ (.tail _ (.head _))))) (.cons (.tail _ (.tail _ (.tail _ (.head _)))) (.cons (.tail _ (.tail _ (.head _))) (.cons (.tail _ (.head _)) .nil)))) (.tail _ (.tail _ (.tail _ (.tail _ (.tail _ (.head _)))))) ?_ rfl
  · exact News.sub N (sub_cons (.tail _ (.tail _ (.tail _ (.tail _ (.tail _ (.head _)))))) (sub_cons (.head _) (sub_cons (.tail _ (.head _)) (sub_cons (.tail _ (.tail _ (.head _))) (sub_cons (.tail _ (.tail _ (.tail _ (.head _)))) (sub_cons (.tail _ (.tail _ (.tail _ (.tail _ (.head _))))) (sub_cons (.tail _ (.tail _ (.tail _ (.tail _ (.tail _ (.tail _ (.head _))))))) (fun _ h => nomatch h))))))))
  · intro p hp
    rcases List.mem_cons.mp hp with rfl | hp
    · exact Nat.ne_of_gt hl
    rcases List.mem_cons.mp hp with rfl | hp
    · exact Nat.ne_of_gt h4
    rcases List.mem_cons.mp hp with rfl | hp
    · exact Nat.ne_of_gt h3
    rcases List.mem_cons.mp hp with rfl | hp
    · exact Nat.ne_of_gt h2
    rcases List.mem_cons.mp hp with rfl | hp
    · exact Nat.ne_of_gt h1
    rw [List.mem_singleton.mp hp]
    exact Nat.ne_of_lt hx
theorem offU {I fd : Addr} {o o' : Obj} {base : Led} (h : ∀ p ∈ (fd, o) :: base, p.1 ≠ I) : ∀ p ∈ (fd, o') :: base, p.1 ≠ I := by
  intro p hp
  rcases List.mem_cons.mp hp with rfl | hp
  · exact h (fd, o) (.head _)
  · exact h p (.tail _ hp)

theorem ltold_mc (w : World) {sd kd : Addr} {so ko : Obj} {cs ck : Prs} {led : Led} (hs : (sd, so) ∈ led) (hkd : (kd, ko) ∈ led) (Ts : TT w sd so cs) (Tk : TT w kd ko ck) (hG : Good cs) (hl : cs.length ≤ 5) :
    MC w 2 16 327 [.ref sd, .ref kd] led (fun r news' => ∃ (t : Tok), r = .str (Txt.join (Str.ofString "") (lall cs ck)) t ∧ news' = led) := by
  have : (fun (_ : OpenLaw) (_ : Params → Frag) => True) PySem.Challenge.rw_xm0663_01 hd.heap_39 := by (k_fill; trivial)
  unfold MC
  intro mean mg mb dp un gd cn cs' a ccd cl outer A₀ base h₀ L m s Q E B F X N T hk hdp hun hret
  have hso := (N _ hs).1
  have hko := (N _ hkd).1
  dsimp only at hso hko
  refine wpAny_call ?_
  k_dflt (
    refine' code_keep ?k1 ?k2 ?k3 ?k4 ?k5 ?kA ?kF ?kK ?k6 ?k7 ?k8 ?k9 ?kB ?_ ?c2 ?c3 ?c4 ?c5
    (case kA => exact rfl)
    (case kF => exact rfl)
    (case kK => first | exact rfl | assumption)
    (case k1 => k_asm)
    (case k2 => k_asm)
    (case k3 => k_asm)
    (case k4 => k_asm)
    (case k5 => k_asm)
    (case k6 => k_is)
    (case k7 => k_is)
    (case k8 => ktr_room)
    (case k9 => exact BindsTo.of_eq rfl)
    (case c5 => decide)
    (case kB => exact locs rfl)
    (case c2 => exact rfl)
    (case c3 => exact rfl)
    (case c4 => exact rfl)
    k_whole
    intro L' h' F' N' B' X' T'
    (try dsimp only)
    (try k_lift B')
    (try k_fold))
  show let A₁ : Around := _; wpAny _ A₁ _ _ _ _
  intro A₁
  show let e₁ : Env := _; wpAny _ _ (execs _ e₁) _ _ _
  intro e₁
  clear N
  repeat' ((fail_if_success (with_reducible show wpAny _ _ (execs (Stmt.Assign [Expr.Name (Str.ofString "found") _] _ _ :: _) _) _ _ _)); (first | (k_unfold; (try dsimp only)) | (k_end; wrow_close) | ((with_reducible show wpAny _ _ (call (Value.builtin "str.join") _) _ _ _); k_here; k_dflt (refine join_listW (News.isList (by k_asm) (by k_mem)) (by assumption) (by decide +kernel) (by assumption) ?_); intro _ _) | ((with_reducible show wpAny _ _ (exec (Stmt.For _ _ _ _ _) _) _ _ _); k_here; (with_reducible rename Fr _ _ _ _ => zlFq); (with_reducible refine' For_turns ?ktF ?_ ?kths ?kthE); (case ktF => k_dflt (exact zlFq)); (case kths => k_dflt (intro _; rfl)); (case kthE => k_dflt passes_own)) | ((with_reducible show wpAny _ _ (newList _) _ _ _); k_here; (with_reducible refine' newList_K ?k1 ?k2 ?_ ?kz); (case k1 => k_dflt k_asm); (case k2 => k_dflt k_asm); (case kz => (rw [sizeLine_eq]; simp only [List.length_cons, List.length_nil]; omega)); k_whole; intro zlq zhq zFq zNq zl1; (try k_lt zl1); (try k_sweep)) | ((with_reducible show wpAny _ _ (call (Value.builtin "list.append") _) _ _ _); k_here; (with_reducible show wpAny _ _ (call (Value.builtin _) [Value.ref _, _]) _ _ _); k_dflt (refine' append_K ?k1 ?k2 ?k3 ?_ ?z; (case k1 => k_asm); (case k2 => k_asm); (case k3 => k_upd); (case z => (rw [sizeLine_eq]; simp only [List.size_toArray]; omega)); k_whole); intro zhq zFq zNq; (try k_sweep)) | ((with_reducible show wpAny _ _ (binaryOp .Add (Value.str _ _) (Value.str _ _)) _ _ _); k_here; (refine add_str ?_ ?kz); (case kz => (rw [sizeLine_eq]; (try simp only [Str.length_append, lm1, lm2, lm3, lm4, ln4]); omega)); intro _ _) | ((with_reducible show wpAny _ _ (subscriptTail _ _ (Value.ref _) _) _ _ _); k_here; (with_reducible show wpAny _ _ (subscriptTail _ _ (Value.ref _) (Value.str _ _)) _ _ _); k_dflt (refine th_item (by first | exact Fr.keep (by k_asm) _ _ (by assumption) | exact News.get (by k_asm) (by k_mem)) (by assumption) (by assumption) ?_); intro _) | ((with_reducible show wpAny _ _ (compareOp CmpOp.NotIn (Value.str _ _) (Value.ref _)) _ _ _); k_here; k_dflt (first | refine th_notin1 (Fr.keep (by k_asm) _ _ (by assumption)) (by assumption) (by assumption) ?_ | refine th_notin0 (Fr.keep (by k_asm) _ _ (by assumption)) (by assumption) (by assumption) ?_ | refine th_notin (Fr.keep (by k_asm) _ _ (by assumption)) (by assumption) ?_)) | ((with_reducible show wpAny _ _ (compareOp CmpOp.In (Value.str _ _) (Value.ref _)) _ _ _); k_here; k_dflt (first | refine th_in1 (Fr.keep (by k_asm) _ _ (by assumption)) (by assumption) (by assumption) ?_ | refine th_in0 (Fr.keep (by k_asm) _ _ (by assumption)) (by assumption) (by assumption) ?_ | refine th_in (Fr.keep (by k_asm) _ _ (by assumption)) (by assumption) ?_)) | (walk1 <;> (try ((with_reducible show wpAny _ _ (exec _ _) _ _ _); k_fold))) | (dsimp only; walk1) | (leave1; (try dsimp only))))
  rename Obj.IsDictOf _ _ _ => hd'
  rename (_ == sysModules) = false => lo'
  rename PyProof.V.FlatPairs _ _ _ => hf'
  have TD : TT w _ _ TX := ⟨lo', _, hd', .cons (.cons (.cons .nil))⟩
  clear hd' lo' hf'
  dsimp only
  rename Fr s.heap _ _ _ => F0
  rename News _ _ _ _ => N0
  refine nm_fr F0 fun m1 em1 => ?_
  refine nm_led0 N0 fun led0 el0 => ?_
  repeat' ((fail_if_success (with_reducible show wpAny _ _ (exec (Stmt.Assign _ _ _) _) _ _ _)); (first | (k_unfold; (try dsimp only)) | (k_end; wrow_close) | ((with_reducible show wpAny _ _ (call (Value.builtin "str.join") _) _ _ _); k_here; k_dflt (refine join_listW (News.isList (by k_asm) (by k_mem)) (by assumption) (by decide +kernel) (by assumption) ?_); intro _ _) | ((with_reducible show wpAny _ _ (exec (Stmt.For _ _ _ _ _) _) _ _ _); k_here; (with_reducible rename Fr _ _ _ _ => zlFq); (with_reducible refine' For_turns ?ktF ?_ ?kths ?kthE); (case ktF => k_dflt (exact zlFq)); (case kths => k_dflt (intro _; rfl)); (case kthE => k_dflt passes_own)) | ((with_reducible show wpAny _ _ (newList _) _ _ _); k_here; (with_reducible refine' newList_K ?k1 ?k2 ?_ ?kz); (case k1 => k_dflt k_asm); (case k2 => k_dflt k_asm); (case kz => (rw [sizeLine_eq]; simp only [List.length_cons, List.length_nil]; omega)); k_whole; intro zlq zhq zFq zNq zl1; (try k_lt zl1); (try k_sweep)) | ((with_reducible show wpAny _ _ (call (Value.builtin "list.append") _) _ _ _); k_here; (with_reducible show wpAny _ _ (call (Value.builtin _) [Value.ref _, _]) _ _ _); k_dflt (refine' append_K ?k1 ?k2 ?k3 ?_ ?z; (case k1 => k_asm); (case k2 => k_asm); (case k3 => k_upd); (case z => (rw [sizeLine_eq]; simp only [List.size_toArray]; omega)); k_whole); intro zhq zFq zNq; (try k_sweep)) | ((with_reducible show wpAny _ _ (binaryOp .Add (Value.str _ _) (Value.str _ _)) _ _ _); k_here; (refine add_str ?_ ?kz); (case kz => (rw [sizeLine_eq]; (try simp only [Str.length_append, lm1, lm2, lm3, lm4, ln4]); omega)); intro _ _) | ((with_reducible show wpAny _ _ (subscriptTail _ _ (Value.ref _) _) _ _ _); k_here; (with_reducible show wpAny _ _ (subscriptTail _ _ (Value.ref _) (Value.str _ _)) _ _ _); k_dflt (refine th_item (by first | exact Fr.keep (by k_asm) _ _ (by assumption) | exact News.get (by k_asm) (by k_mem)) (by assumption) (by assumption) ?_); intro _) | ((with_reducible show wpAny _ _ (compareOp CmpOp.NotIn (Value.str _ _) (Value.ref _)) _ _ _); k_here; k_dflt (first | refine th_notin1 (Fr.keep (by k_asm) _ _ (by assumption)) (by assumption) (by assumption) ?_ | refine th_notin0 (Fr.keep (by k_asm) _ _ (by assumption)) (by assumption) (by assumption) ?_ | refine th_notin (Fr.keep (by k_asm) _ _ (by assumption)) (by assumption) ?_)) | ((with_reducible show wpAny _ _ (compareOp CmpOp.In (Value.str _ _) (Value.ref _)) _ _ _); k_here; k_dflt (first | refine th_in1 (Fr.keep (by k_asm) _ _ (by assumption)) (by assumption) (by assumption) ?_ | refine th_in0 (Fr.keep (by k_asm) _ _ (by assumption)) (by assumption) (by assumption) ?_ | refine th_in (Fr.keep (by k_asm) _ _ (by assumption)) (by assumption) ?_)) | (walk1 <;> (try ((with_reducible show wpAny _ _ (exec _ _) _ _ _); k_fold))) | (dsimp only; walk1) | (leave1; (try dsimp only))))
  refine cut_at (s₀ := s) (h₀ := s.heap) (L := L') (fun h' m' => ∃ fd vs n, News s.heap L' h' ((fd, listOf (List.toArray vs) n) :: led0) ∧ (∀ p ∈ led0, p.1 < fd) ∧ StrsAre vs (lbase cs ck) ∧ m' = fun y => if y = Str.ofString "found" then some (.ref fd) else m1 y) ?_ ?_
  · repeat' (first | (k_unfold; (try dsimp only)) | (k_end; wrow_close) | ((with_reducible show wpAny _ _ (call (Value.builtin "str.join") _) _ _ _); k_here; k_dflt (refine join_listW (News.isList (by k_asm) (by k_mem)) (by assumption) (by decide +kernel) (by assumption) ?_); intro _ _) | ((with_reducible show wpAny _ _ (exec (Stmt.For _ _ _ _ _) _) _ _ _); k_here; (with_reducible rename Fr _ _ _ _ => zlFq); (with_reducible refine' For_turns ?ktF ?_ ?kths ?kthE); (case ktF => k_dflt (exact zlFq)); (case kths => k_dflt (intro _; rfl)); (case kthE => k_dflt passes_own)) | ((with_reducible show wpAny _ _ (newList _) _ _ _); k_here; (with_reducible refine' newList_K ?k1 ?k2 ?_ ?kz); (case k1 => k_dflt k_asm); (case k2 => k_dflt k_asm); (case kz => (rw [sizeLine_eq]; simp only [List.length_cons, List.length_nil]; omega)); k_whole; intro zlq zhq zFq zNq zl1; (try k_lt zl1); (try k_sweep)) | ((with_reducible show wpAny _ _ (call (Value.builtin "list.append") _) _ _ _); k_here; (with_reducible show wpAny _ _ (call (Value.builtin _) [Value.ref _, _]) _ _ _); k_dflt (refine' append_K ?k1 ?k2 ?k3 ?_ ?z; (case k1 => k_asm); (case k2 => k_asm); (case k3 => k_upd); (case z => (rw [sizeLine_eq]; simp only [List.size_toArray]; omega)); k_whole); intro zhq zFq zNq; (try k_sweep)) | ((with_reducible show wpAny _ _ (binaryOp .Add (Value.str _ _) (Value.str _ _)) _ _ _); k_here; (refine add_str ?_ ?kz); (case kz => (rw [sizeLine_eq]; (try simp only [Str.length_append, lm1, lm2, lm3, lm4, ln4]); omega)); intro _ _) | ((with_reducible show wpAny _ _ (subscriptTail _ _ (Value.ref _) _) _ _ _); k_here; (with_reducible show wpAny _ _ (subscriptTail _ _ (Value.ref _) (Value.str _ _)) _ _ _); k_dflt (refine th_item (by first | exact Fr.keep (by k_asm) _ _ (by assumption) | exact News.get (by k_asm) (by k_mem)) (by assumption) (by assumption) ?_); intro _) | ((with_reducible show wpAny _ _ (compareOp CmpOp.NotIn (Value.str _ _) (Value.ref _)) _ _ _); k_here; k_dflt (first | refine th_notin1 (Fr.keep (by k_asm) _ _ (by assumption)) (by assumption) (by assumption) ?_ | refine th_notin0 (Fr.keep (by k_asm) _ _ (by assumption)) (by assumption) (by assumption) ?_ | refine th_notin (Fr.keep (by k_asm) _ _ (by assumption)) (by assumption) ?_)) | ((with_reducible show wpAny _ _ (compareOp CmpOp.In (Value.str _ _) (Value.ref _)) _ _ _); k_here; k_dflt (first | refine th_in1 (Fr.keep (by k_asm) _ _ (by assumption)) (by assumption) (by assumption) ?_ | refine th_in0 (Fr.keep (by k_asm) _ _ (by assumption)) (by assumption) (by assumption) ?_ | refine th_in (Fr.keep (by k_asm) _ _ (by assumption)) (by assumption) ?_)) | (walk1 <;> (try ((with_reducible show wpAny _ _ (exec _ _) _ _ _); k_fold))) | (dsimp only; walk1) | (leave1; (try dsimp only)))
    all_goals first
      | exact Cut.intro (by k_asm) ⟨_, [_], 0, by (rw [el0]; k_asm), by (rw [el0]; intro p hp; cases List.mem_singleton.mp hp; assumption), by (rw [lbase_b (by assumption) (by assumption)]; exact .cons _ _ .nil), by rw [em1]⟩
      | exact Cut.intro (by k_asm) ⟨_, [], 0, by (rw [el0]; k_asm), by (rw [el0]; intro p hp; cases List.mem_singleton.mp hp; assumption), by (rw [lbase_1 (by assumption)]; exact .nil), by rw [em1]⟩
      | exact Cut.intro (by k_asm) ⟨_, [], 0, by (rw [el0]; k_asm), by (rw [el0]; intro p hp; cases List.mem_singleton.mp hp; assumption), by (rw [lbase_2 (by assumption)]; exact .nil), by rw [em1]⟩
  · rintro h' tk' m' F1 ⟨fd, vs, n, N1, l1, hS0, em⟩
    rw [em1] at em
    subst em
    subst el0
    clear F0 N0
    k_lt l1
    have hx0 := lbase_len cs ck
    have hv0 := StrsAre.length hS0
    repeat' ((fail_if_success (with_reducible show wpAny _ _ (pyIter (Value.ref _)) _ _ _)); (first | (k_unfold; (try dsimp only)) | (k_end; wrow_close) | ((with_reducible show wpAny _ _ (call (Value.builtin "str.join") _) _ _ _); k_here; k_dflt (refine join_listW (News.isList (by k_asm) (by k_mem)) (by assumption) (by decide +kernel) (by assumption) ?_); intro _ _) | ((with_reducible show wpAny _ _ (exec (Stmt.For _ _ _ _ _) _) _ _ _); k_here; (with_reducible rename Fr _ _ _ _ => zlFq); (with_reducible refine' For_turns ?ktF ?_ ?kths ?kthE); (case ktF => k_dflt (exact zlFq)); (case kths => k_dflt (intro _; rfl)); (case kthE => k_dflt passes_own)) | ((with_reducible show wpAny _ _ (newList _) _ _ _); k_here; (with_reducible refine' newList_K ?k1 ?k2 ?_ ?kz); (case k1 => k_dflt k_asm); (case k2 => k_dflt k_asm); (case kz => (rw [sizeLine_eq]; simp only [List.length_cons, List.length_nil]; omega)); k_whole; intro zlq zhq zFq zNq zl1; (try k_lt zl1); (try k_sweep)) | ((with_reducible show wpAny _ _ (call (Value.builtin "list.append") _) _ _ _); k_here; (with_reducible show wpAny _ _ (call (Value.builtin _) [Value.ref _, _]) _ _ _); k_dflt (refine' append_K ?k1 ?k2 ?k3 ?_ ?z; (case k1 => k_asm); (case k2 => k_asm); (case k3 => k_upd); (case z => (rw [sizeLine_eq]; simp only [List.size_toArray]; omega)); k_whole); intro zhq zFq zNq; (try k_sweep)) | ((with_reducible show wpAny _ _ (binaryOp .Add (Value.str _ _) (Value.str _ _)) _ _ _); k_here; (refine add_str ?_ ?kz); (case kz => (rw [sizeLine_eq]; (try simp only [Str.length_append, lm1, lm2, lm3, lm4, ln4]); omega)); intro _ _) | ((with_reducible show wpAny _ _ (subscriptTail _ _ (Value.ref _) _) _ _ _); k_here; (with_reducible show wpAny _ _ (subscriptTail _ _ (Value.ref _) (Value.str _ _)) _ _ _); k_dflt (refine th_item (by first | exact Fr.keep (by k_asm) _ _ (by assumption) | exact News.get (by k_asm) (by k_mem)) (by assumption) (by assumption) ?_); intro _) | ((with_reducible show wpAny _ _ (compareOp CmpOp.NotIn (Value.str _ _) (Value.ref _)) _ _ _); k_here; k_dflt (first | refine th_notin1 (Fr.keep (by k_asm) _ _ (by assumption)) (by assumption) (by assumption) ?_ | refine th_notin0 (Fr.keep (by k_asm) _ _ (by assumption)) (by assumption) (by assumption) ?_ | refine th_notin (Fr.keep (by k_asm) _ _ (by assumption)) (by assumption) ?_)) | ((with_reducible show wpAny _ _ (compareOp CmpOp.In (Value.str _ _) (Value.ref _)) _ _ _); k_here; k_dflt (first | refine th_in1 (Fr.keep (by k_asm) _ _ (by assumption)) (by assumption) (by assumption) ?_ | refine th_in0 (Fr.keep (by k_asm) _ _ (by assumption)) (by assumption) (by assumption) ?_ | refine th_in (Fr.keep (by k_asm) _ _ (by assumption)) (by assumption) ?_)) | (walk1 <;> (try ((with_reducible show wpAny _ _ (exec _ _) _ _ _); k_fold))) | (dsimp only; walk1) | (leave1; (try dsimp only))))
    rename Fr _ _ _ _ => F1
    rename News _ _ _ _ => N1
    rename fd < _ ∧ _ < _ => g1
    rename _ < _ ∧ fd < _ ∧ _ < _ => g2
    rename _ < _ ∧ _ < _ ∧ fd < _ ∧ _ < _ => g3
    rename _ < _ ∧ _ < _ ∧ _ < _ ∧ fd < _ ∧ _ < _ => g4
    rename _ < _ ∧ _ < _ ∧ _ < _ ∧ _ < _ ∧ fd < _ ∧ _ < _ => g5
    refine nmU N1 (by assumption) g1.1 g2.2.1 g3.2.2.1 g4.2.2.2.1 g5.2.2.2.2.1 fun vl ln base lp N2 hlm hbP hxm hbf z1 => ?_
    subst z1
    clear N1 g1 g2 g3 g4 g5 l1
    refine turns_inv [Str.ofString "prefix", Str.ofString "name"] (fun i u nx => ∃ vs n, StrsAre vs (lfold cs ck i) ∧ nx = (fd, listOf (List.toArray vs) n) :: base) (by rfl) F1 N2 (.tail _ hlm) ⟨_, _, hS0, rfl⟩ ?turn ?done
    case turn =>
      intro I9 i v u9 h tk nx it hv hJ hI hlp hc F5 N5
      obtain ⟨vs5, n5, hS5, rfl⟩ := hJ
      obtain ⟨t, p, nm, tp, tn, nt, rfl, hp, htm⟩ := hbP.at hv
      have hnm := pn_len (List.mem_of_getElem? hp)
      have hi4 : i < 4 := (List.getElem?_eq_some_iff.mp hp).1
      have hl5 := lfold_len cs ck i
      have hv5 := StrsAre.length hS5
      have hIf : I9 ≠ fd := fun z => hI _ (.head _) z.symm
      have hnx := lfold_next (cs := cs) (ck := ck) hp
      dsimp only at hnm
      rcases hcs : lk cs p with _ | u
      · repeat' (first | (k_unfold; (try dsimp only)) | (k_end; wrow_close) | ((with_reducible show wpAny _ _ (call (Value.builtin "str.join") _) _ _ _); k_here; k_dflt (refine join_listW (News.isList (by k_asm) (by k_mem)) (by assumption) (by decide +kernel) (by assumption) ?_); intro _ _) | ((with_reducible show wpAny _ _ (exec (Stmt.For _ _ _ _ _) _) _ _ _); k_here; (with_reducible rename Fr _ _ _ _ => zlFq); (with_reducible refine' For_turns ?ktF ?_ ?kths ?kthE); (case ktF => k_dflt (exact zlFq)); (case kths => k_dflt (intro _; rfl)); (case kthE => k_dflt passes_own)) | ((with_reducible show wpAny _ _ (newList _) _ _ _); k_here; (with_reducible refine' newList_K ?k1 ?k2 ?_ ?kz); (case k1 => k_dflt k_asm); (case k2 => k_dflt k_asm); (case kz => (rw [sizeLine_eq]; simp only [List.length_cons, List.length_nil]; omega)); k_whole; intro zlq zhq zFq zNq zl1; (try k_lt zl1); (try k_sweep)) | ((with_reducible show wpAny _ _ (call (Value.builtin "list.append") _) _ _ _); k_here; (with_reducible show wpAny _ _ (call (Value.builtin _) [Value.ref _, _]) _ _ _); k_dflt (refine' append_K ?k1 ?k2 ?k3 ?_ ?z; (case k1 => k_asm); (case k2 => k_asm); (case k3 => k_upd); (case z => (rw [sizeLine_eq]; simp only [List.size_toArray]; omega)); k_whole); intro zhq zFq zNq; (try k_sweep)) | ((with_reducible show wpAny _ _ (binaryOp .Add (Value.str _ _) (Value.str _ _)) _ _ _); k_here; (refine add_str ?_ ?kz); (case kz => (rw [sizeLine_eq]; (try simp only [Str.length_append, lm1, lm2, lm3, lm4, ln4]); omega)); intro _ _) | ((with_reducible show wpAny _ _ (subscriptTail _ _ (Value.ref _) _) _ _ _); k_here; (with_reducible show wpAny _ _ (subscriptTail _ _ (Value.ref _) (Value.str _ _)) _ _ _); k_dflt (refine th_item (by first | exact Fr.keep (by k_asm) _ _ (by assumption) | exact News.get (by k_asm) (by k_mem)) (by assumption) (by assumption) ?_); intro _) | ((with_reducible show wpAny _ _ (compareOp CmpOp.NotIn (Value.str _ _) (Value.ref _)) _ _ _); k_here; k_dflt (first | refine th_notin1 (Fr.keep (by k_asm) _ _ (by assumption)) (by assumption) (by assumption) ?_ | refine th_notin0 (Fr.keep (by k_asm) _ _ (by assumption)) (by assumption) (by assumption) ?_ | refine th_notin (Fr.keep (by k_asm) _ _ (by assumption)) (by assumption) ?_)) | ((with_reducible show wpAny _ _ (compareOp CmpOp.In (Value.str _ _) (Value.ref _)) _ _ _); k_here; k_dflt (first | refine th_in1 (Fr.keep (by k_asm) _ _ (by assumption)) (by assumption) (by assumption) ?_ | refine th_in0 (Fr.keep (by k_asm) _ _ (by assumption)) (by assumption) (by assumption) ?_ | refine th_in (Fr.keep (by k_asm) _ _ (by assumption)) (by assumption) ?_)) | (walk1 <;> (try ((with_reducible show wpAny _ _ (exec _ _) _ _ _); k_fold))) | (dsimp only; walk1) | (leave1; (try dsimp only)))
        refine LPost.next (by k_asm) (by k_asm) _ (fun q hq => hq) hI ⟨hlp, ⟨_, _, by rw [hnx, lstep_0 hcs]; exact hS5, rfl⟩, fun z h2 => ?_⟩
        obtain ⟨h3, h4⟩ := contains_f h2
        obtain ⟨h5, _⟩ := contains_f h4
        simp only [if_neg h3, if_neg h5, h2, Bool.false_eq_true, if_false]
      · have htx := tx_v (hG _ (lk_mem hcs)).2
        have hcl := canon_len (hG _ (lk_mem hcs)).2
        dsimp only at htx hcl
        rcases hck : lk ck p with _ | x
        · repeat' (first | (k_unfold; (try dsimp only)) | (k_end; wrow_close) | ((with_reducible show wpAny _ _ (call (Value.builtin "str.join") _) _ _ _); k_here; k_dflt (refine join_listW (News.isList (by k_asm) (by k_mem)) (by assumption) (by decide +kernel) (by assumption) ?_); intro _ _) | ((with_reducible show wpAny _ _ (exec (Stmt.For _ _ _ _ _) _) _ _ _); k_here; (with_reducible rename Fr _ _ _ _ => zlFq); (with_reducible refine' For_turns ?ktF ?_ ?kths ?kthE); (case ktF => k_dflt (exact zlFq)); (case kths => k_dflt (intro _; rfl)); (case kthE => k_dflt passes_own)) | ((with_reducible show wpAny _ _ (newList _) _ _ _); k_here; (with_reducible refine' newList_K ?k1 ?k2 ?_ ?kz); (case k1 => k_dflt k_asm); (case k2 => k_dflt k_asm); (case kz => (rw [sizeLine_eq]; simp only [List.length_cons, List.length_nil]; omega)); k_whole; intro zlq zhq zFq zNq zl1; (try k_lt zl1); (try k_sweep)) | ((with_reducible show wpAny _ _ (call (Value.builtin "list.append") _) _ _ _); k_here; (with_reducible show wpAny _ _ (call (Value.builtin _) [Value.ref _, _]) _ _ _); k_dflt (refine' append_K ?k1 ?k2 ?k3 ?_ ?z; (case k1 => k_asm); (case k2 => k_asm); (case k3 => k_upd); (case z => (rw [sizeLine_eq]; simp only [List.size_toArray]; omega)); k_whole); intro zhq zFq zNq; (try k_sweep)) | ((with_reducible show wpAny _ _ (binaryOp .Add (Value.str _ _) (Value.str _ _)) _ _ _); k_here; (refine add_str ?_ ?kz); (case kz => (rw [sizeLine_eq]; (try simp only [Str.length_append, lm1, lm2, lm3, lm4, ln4]); omega)); intro _ _) | ((with_reducible show wpAny _ _ (subscriptTail _ _ (Value.ref _) _) _ _ _); k_here; (with_reducible show wpAny _ _ (subscriptTail _ _ (Value.ref _) (Value.str _ _)) _ _ _); k_dflt (refine th_item (by first | exact Fr.keep (by k_asm) _ _ (by assumption) | exact News.get (by k_asm) (by k_mem)) (by assumption) (by assumption) ?_); intro _) | ((with_reducible show wpAny _ _ (compareOp CmpOp.NotIn (Value.str _ _) (Value.ref _)) _ _ _); k_here; k_dflt (first | refine th_notin1 (Fr.keep (by k_asm) _ _ (by assumption)) (by assumption) (by assumption) ?_ | refine th_notin0 (Fr.keep (by k_asm) _ _ (by assumption)) (by assumption) (by assumption) ?_ | refine th_notin (Fr.keep (by k_asm) _ _ (by assumption)) (by assumption) ?_)) | ((with_reducible show wpAny _ _ (compareOp CmpOp.In (Value.str _ _) (Value.ref _)) _ _ _); k_here; k_dflt (first | refine th_in1 (Fr.keep (by k_asm) _ _ (by assumption)) (by assumption) (by assumption) ?_ | refine th_in0 (Fr.keep (by k_asm) _ _ (by assumption)) (by assumption) (by assumption) ?_ | refine th_in (Fr.keep (by k_asm) _ _ (by assumption)) (by assumption) ?_)) | (walk1 <;> (try ((with_reducible show wpAny _ _ (exec _ _) _ _ _); k_fold))) | (dsimp only; walk1) | (leave1; (try dsimp only)))
          rename News _ _ _ _ => N6
          simp only [List.push_toArray] at N6
          refine LPost.next (by k_asm) N6 _ (fun q hq => hq) (offU hI) ⟨.tail _ hlm, ⟨_, _, by rw [hnx, lstep_1 hcs hck]; exact StrsAre.append' hS5 (.cons _ _ .nil), rfl⟩, fun z h2 => ?_⟩
          obtain ⟨h3, h4⟩ := contains_f h2
          obtain ⟨h5, _⟩ := contains_f h4
          simp only [if_neg h3, if_neg h5, h2, Bool.false_eq_true, if_false]
        · repeat' (first | (k_unfold; (try dsimp only)) | (k_end; wrow_close) | ((with_reducible show wpAny _ _ (call (Value.builtin "str.join") _) _ _ _); k_here; k_dflt (refine join_listW (News.isList (by k_asm) (by k_mem)) (by assumption) (by decide +kernel) (by assumption) ?_); intro _ _) | ((with_reducible show wpAny _ _ (exec (Stmt.For _ _ _ _ _) _) _ _ _); k_here; (with_reducible rename Fr _ _ _ _ => zlFq); (with_reducible refine' For_turns ?ktF ?_ ?kths ?kthE); (case ktF => k_dflt (exact zlFq)); (case kths => k_dflt (intro _; rfl)); (case kthE => k_dflt passes_own)) | ((with_reducible show wpAny _ _ (newList _) _ _ _); k_here; (with_reducible refine' newList_K ?k1 ?k2 ?_ ?kz); (case k1 => k_dflt k_asm); (case k2 => k_dflt k_asm); (case kz => (rw [sizeLine_eq]; simp only [List.length_cons, List.length_nil]; omega)); k_whole; intro zlq zhq zFq zNq zl1; (try k_lt zl1); (try k_sweep)) | ((with_reducible show wpAny _ _ (call (Value.builtin "list.append") _) _ _ _); k_here; (with_reducible show wpAny _ _ (call (Value.builtin _) [Value.ref _, _]) _ _ _); k_dflt (refine' append_K ?k1 ?k2 ?k3 ?_ ?z; (case k1 => k_asm); (case k2 => k_asm); (case k3 => k_upd); (case z => (rw [sizeLine_eq]; simp only [List.size_toArray]; omega)); k_whole); intro zhq zFq zNq; (try k_sweep)) | ((with_reducible show wpAny _ _ (binaryOp .Add (Value.str _ _) (Value.str _ _)) _ _ _); k_here; (refine add_str ?_ ?kz); (case kz => (rw [sizeLine_eq]; (try simp only [Str.length_append, lm1, lm2, lm3, lm4, ln4]); omega)); intro _ _) | ((with_reducible show wpAny _ _ (subscriptTail _ _ (Value.ref _) _) _ _ _); k_here; (with_reducible show wpAny _ _ (subscriptTail _ _ (Value.ref _) (Value.str _ _)) _ _ _); k_dflt (refine th_item (by first | exact Fr.keep (by k_asm) _ _ (by assumption) | exact News.get (by k_asm) (by k_mem)) (by assumption) (by assumption) ?_); intro _) | ((with_reducible show wpAny _ _ (compareOp CmpOp.NotIn (Value.str _ _) (Value.ref _)) _ _ _); k_here; k_dflt (first | refine th_notin1 (Fr.keep (by k_asm) _ _ (by assumption)) (by assumption) (by assumption) ?_ | refine th_notin0 (Fr.keep (by k_asm) _ _ (by assumption)) (by assumption) (by assumption) ?_ | refine th_notin (Fr.keep (by k_asm) _ _ (by assumption)) (by assumption) ?_)) | ((with_reducible show wpAny _ _ (compareOp CmpOp.In (Value.str _ _) (Value.ref _)) _ _ _); k_here; k_dflt (first | refine th_in1 (Fr.keep (by k_asm) _ _ (by assumption)) (by assumption) (by assumption) ?_ | refine th_in0 (Fr.keep (by k_asm) _ _ (by assumption)) (by assumption) (by assumption) ?_ | refine th_in (Fr.keep (by k_asm) _ _ (by assumption)) (by assumption) ?_)) | (walk1 <;> (try ((with_reducible show wpAny _ _ (exec _ _) _ _ _); k_fold))) | (dsimp only; walk1) | (leave1; (try dsimp only)))
          · rename (x != u) = true => hxu
            rename News _ _ _ _ => N6
            simp only [List.push_toArray] at N6
            refine LPost.next (by k_asm) N6 _ (fun q hq => hq) (offU hI) ⟨.tail _ hlm, ⟨_, _, by rw [hnx, lstep_2 hcs hck hxu]; exact StrsAre.append' hS5 (.cons _ _ .nil), rfl⟩, fun z h2 => ?_⟩
            obtain ⟨h3, h4⟩ := contains_f h2
            obtain ⟨h5, _⟩ := contains_f h4
            simp only [if_neg h3, if_neg h5, h2, Bool.false_eq_true, if_false]
          · rename (x != u) = false => hxu
            refine LPost.next (by k_asm) (by k_asm) _ (fun q hq => hq) hI ⟨hlp, ⟨_, _, by rw [hnx, lstep_3 hcs hck hxu]; exact hS5, rfl⟩, fun z h2 => ?_⟩
            obtain ⟨h3, h4⟩ := contains_f h2
            obtain ⟨h5, _⟩ := contains_f h4
            simp only [if_neg h3, if_neg h5, h2, Bool.false_eq_true, if_false]
    case done =>
      intro u9 nx h tk hJ hlp F5 N5
      obtain ⟨vs4, n4, hS4, rfl⟩ := hJ
      have hvl : vl.length = 4 := hbP.len
      rw [hvl] at hS4
      have hw : ((lall cs ck).map (·.length)).sum + (lall cs ck).length ≤ 1048576 := Nat.le_trans (wgt_all hG) (by decide)
      have hS5 : StrsAre vs4.toArray.toList (lall cs ck) := hS4
      clear F1 N2
      repeat' (first | (k_unfold; (try dsimp only)) | (k_end; wrow_close) | ((with_reducible show wpAny _ _ (call (Value.builtin "str.join") _) _ _ _); k_here; k_dflt (refine join_listW (News.isList (by k_asm) (by k_mem)) (by assumption) (by decide +kernel) (by assumption) ?_); intro _ _) | ((with_reducible show wpAny _ _ (exec (Stmt.For _ _ _ _ _) _) _ _ _); k_here; (with_reducible rename Fr _ _ _ _ => zlFq); (with_reducible refine' For_turns ?ktF ?_ ?kths ?kthE); (case ktF => k_dflt (exact zlFq)); (case kths => k_dflt (intro _; rfl)); (case kthE => k_dflt passes_own)) | ((with_reducible show wpAny _ _ (newList _) _ _ _); k_here; (with_reducible refine' newList_K ?k1 ?k2 ?_ ?kz); (case k1 => k_dflt k_asm); (case k2 => k_dflt k_asm); (case kz => (rw [sizeLine_eq]; simp only [List.length_cons, List.length_nil]; omega)); k_whole; intro zlq zhq zFq zNq zl1; (try k_lt zl1); (try k_sweep)) | ((with_reducible show wpAny _ _ (call (Value.builtin "list.append") _) _ _ _); k_here; (with_reducible show wpAny _ _ (call (Value.builtin _) [Value.ref _, _]) _ _ _); k_dflt (refine' append_K ?k1 ?k2 ?k3 ?_ ?z; (case k1 => k_asm); (case k2 => k_asm); (case k3 => k_upd); (case z => (rw [sizeLine_eq]; simp only [List.size_toArray]; omega)); k_whole); intro zhq zFq zNq; (try k_sweep)) | ((with_reducible show wpAny _ _ (binaryOp .Add (Value.str _ _) (Value.str _ _)) _ _ _); k_here; (refine add_str ?_ ?kz); (case kz => (rw [sizeLine_eq]; (try simp only [Str.length_append, lm1, lm2, lm3, lm4, ln4]); omega)); intro _ _) | ((with_reducible show wpAny _ _ (subscriptTail _ _ (Value.ref _) _) _ _ _); k_here; (with_reducible show wpAny _ _ (subscriptTail _ _ (Value.ref _) (Value.str _ _)) _ _ _); k_dflt (refine th_item (by first | exact Fr.keep (by k_asm) _ _ (by assumption) | exact News.get (by k_asm) (by k_mem)) (by assumption) (by assumption) ?_); intro _) | ((with_reducible show wpAny _ _ (compareOp CmpOp.NotIn (Value.str _ _) (Value.ref _)) _ _ _); k_here; k_dflt (first | refine th_notin1 (Fr.keep (by k_asm) _ _ (by assumption)) (by assumption) (by assumption) ?_ | refine th_notin0 (Fr.keep (by k_asm) _ _ (by assumption)) (by assumption) (by assumption) ?_ | refine th_notin (Fr.keep (by k_asm) _ _ (by assumption)) (by assumption) ?_)) | ((with_reducible show wpAny _ _ (compareOp CmpOp.In (Value.str _ _) (Value.ref _)) _ _ _); k_here; k_dflt (first | refine th_in1 (Fr.keep (by k_asm) _ _ (by assumption)) (by assumption) (by assumption) ?_ | refine th_in0 (Fr.keep (by k_asm) _ _ (by assumption)) (by assumption) (by assumption) ?_ | refine th_in (Fr.keep (by k_asm) _ _ (by assumption)) (by assumption) ?_)) | (walk1 <;> (try ((with_reducible show wpAny _ _ (exec _ _) _ _ _); k_fold))) | (dsimp only; walk1) | (leave1; (try dsimp only)))
      exact hret _ led _ _ (by k_asm) (by assumption) ⟨_, rfl, rfl⟩
end
section
open PySem.Calls PySem.Spec

def KS : List Str := [Str.ofString "", Str.ofString "a", Str.ofString "p", Str.ofString "q", Str.ofString "xml"]
def rk (p : Str) : Nat := if p = Str.ofString "" then 0 else if p = Str.ofString "a" then 1 else if p = Str.ofString "p" then 2 else if p = Str.ofString "q" then 3 else 4
theorem ks_rk : KS.Pairwise (fun a b => rk a < rk b) := by decide +kernel
theorem k5_ks {p : Str} (h : p ∈ K5) : p ∈ KS := by
  have : ∀ q ∈ K5, q ∈ KS := by decide +kernel
  exact this p h
theorem rk_lt : ∀ a ∈ K5, ∀ b ∈ K5, ltCps b.cps.toList a.cps.toList = false → a ≠ b → rk a < rk b := by decide +kernel

theorem inc_eq : ∀ (ks ss : List Str), ks.Pairwise (fun a b => rk a < rk b) → ss.Pairwise (fun a b => rk a < rk b) → (∀ p ∈ ss, p ∈ ks) → ss = ks.filter (fun p => decide (p ∈ ss))
  | [], ss, _, _, h => by
    cases ss with
    | nil => rfl
    | cons s r => exact nomatch h s (.head _)
  | k :: ks, [], _, _, _ => by simp
  | k :: ks, s :: r, hk, hs, h => by
    have hk1 := (List.pairwise_cons.mp hk).1
    have hk2 := (List.pairwise_cons.mp hk).2
    have hs1 := (List.pairwise_cons.mp hs).1
    have hs2 := (List.pairwise_cons.mp hs).2
    by_cases e : s = k
    · subst e
      have hr : ∀ p ∈ r, p ∈ ks := fun p hp => by
        rcases List.mem_cons.mp (h p (.tail _ hp)) with q | q
        · exact absurd (hs1 p hp) (by rw [q]; exact Nat.lt_irrefl _)
        · exact q
      have ih := inc_eq ks r hk2 hs2 hr
      rw [List.filter_cons_of_pos (by simp)]
      congr 1
      refine ih.trans (List.filter_congr fun x hx => ?_)
      have hne : x ≠ s := fun q => absurd (hk1 x hx) (by rw [q]; exact Nat.lt_irrefl _)
      simp [hne]
    · have hsk : s ∈ ks := by
        rcases List.mem_cons.mp (h s (.head _)) with q | q
        · exact absurd q e
        · exact q
      have hlt := hk1 s hsk
      have hkn : k ∉ s :: r := fun q => by
        rcases List.mem_cons.mp q with q | q
        · exact e q.symm
        · exact absurd (Nat.lt_trans hlt (hs1 k q)) (Nat.lt_irrefl _)
      have hr : ∀ p ∈ s :: r, p ∈ ks := fun p hp => by
        rcases List.mem_cons.mp (h p hp) with q | q
        · exact absurd (q ▸ hp) hkn
        · exact q
      have ih := inc_eq ks (s :: r) hk2 hs hr
      rw [List.filter_cons_of_neg (by simpa using hkn)]
      exact ih

theorem rising_rk : ∀ (p : Str) (l : List Str), (p :: l).Nodup → (∀ x ∈ p :: l, x ∈ K5) → risingS p l = true → (p :: l).Pairwise (fun a b => rk a < rk b)
  | p, [], _, _, _ => by simp
  | p, x :: r, hn, hm, h => by
    have h1 : (!ltCps x.cps.toList p.cps.toList && risingS x r) = true := h
    rw [Bool.and_eq_true, Bool.not_eq_true'] at h1
    have hn' := (List.nodup_cons.mp hn)
    have ih := rising_rk x r hn'.2 (fun y hy => hm y (.tail _ hy)) h1.2
    have hpx : rk p < rk x := rk_lt p (hm p (.head _)) x (hm x (.tail _ (.head _))) h1.1 (fun e => hn'.1 (e ▸ .head _))
    refine List.pairwise_cons.mpr ⟨fun y hy => ?_, ih⟩
    rcases List.mem_cons.mp hy with e | hy
    · rw [e]; exact hpx
    · exact Nat.lt_trans hpx ((List.pairwise_cons.mp ih).1 y hy)
theorem sorted_rk {ss : List Str} (hn : ss.Nodup) (hm : ∀ x ∈ ss, x ∈ K5) (h : sortedS ss = true) : ss.Pairwise (fun a b => rk a < rk b) := by
  cases ss with
  | nil => exact .nil
  | cons p l => exact rising_rk p l hn hm h

theorem join_nil : Txt.join (Str.ofString "") [] = Str.ofString "" := by decide +kernel
theorem emp : (Str.ofString "") = Str.empty := by decide +kernel
theorem app_emp (a : Str) : a ++ Str.empty = a := Str.ext' (by simp [Str.cps_append, Str.empty])
theorem join_cons (x : Str) (xs : List Str) : Str.join Str.empty (x :: xs) = x ++ Str.join Str.empty xs := by
  cases xs with
  | nil => show x = x ++ Str.empty; rw [app_emp]
  | cons y r => show x ++ Str.empty ++ Str.join Str.empty (y :: r) = _; rw [app_emp]
theorem join_snoc (xs : List Str) (y : Str) : Str.join Str.empty (xs ++ [y]) = Str.join Str.empty xs ++ y := by
  induction xs with
  | nil => show y = Str.empty ++ y; rw [Str.empty_append]
  | cons x r ih => rw [List.cons_append, join_cons, ih, join_cons, Str.append_assoc]
def cat (xs : List Str) : Str := Txt.join (Str.ofString "") xs
theorem cat_snoc (xs : List Str) (y : Str) : cat (xs ++ [y]) = cat xs ++ y := by
  have h : ∀ l, cat l = Str.join Str.empty l := fun l => by unfold cat; rw [emp]; exact StrLaws.glued_eq_join _ _
  rw [h, h, join_snoc]

theorem l1 : Str.ofString " xmlns" ++ Str.ofString "=\"" = Str.ofString " xmlns=" ++ Str.ofString "\"" := by decide +kernel
theorem l2 : Str.ofString " xmlns:" ++ Str.ofString "a" ++ Str.ofString "=\"" = Str.ofString " xmlns:a=" ++ Str.ofString "\"" := by decide +kernel
theorem l3 : Str.ofString " xmlns:" ++ Str.ofString "p" ++ Str.ofString "=\"" = Str.ofString " xmlns:p=" ++ Str.ofString "\"" := by decide +kernel
theorem l4 : Str.ofString " xmlns:" ++ Str.ofString "q" ++ Str.ofString "=\"" = Str.ofString " xmlns:q=" ++ Str.ofString "\"" := by decide +kernel

def gstep (cs ck : Prs) (b p : Str) : Str := if (lk cs p).isSome = true then tstep cs ck b p else b
theorem one_step {cs ck : Prs} {xs : List Str} {p nm : Str} (hp : p ≠ Str.ofString "xml")
    (hn : (if p = Str.ofString "" then Str.ofString " xmlns" else Str.ofString " xmlns:" ++ p) ++ Str.ofString "=\"" = nm ++ Str.ofString "\"") :
    gstep cs ck (cat xs) p = cat (lstep cs ck xs p nm) := by
  unfold gstep lstep
  by_cases h1 : (lk cs p).isSome = true
  · rw [if_pos h1]
    by_cases h2 : lk ck p ≠ lk cs p
    · have e1 : tstep cs ck (cat xs) p = cat xs ++ (if p = Str.ofString "" then Str.ofString " xmlns" else Str.ofString " xmlns:" ++ p) ++ Str.ofString "=\"" ++ canon ((lk cs p).getD (Str.ofString "")) ++ Str.ofString "\"" := if_pos ⟨hp, h2⟩
      have e2 : (if (lk cs p).isSome = true ∧ lk ck p ≠ lk cs p then xs ++ [lpiece cs p nm] else xs) = xs ++ [lpiece cs p nm] := if_pos ⟨h1, h2⟩
      rw [e1, e2, cat_snoc]
      unfold lpiece
      rw [← hn]
      simp only [Str.append_assoc]
    · have e1 : tstep cs ck (cat xs) p = cat xs := if_neg (fun q => h2 q.2)
      rw [e1, if_neg (fun q => h2 q.2)]
  · rw [if_neg h1, if_neg (fun q => h1 q.1)]

theorem told_eq {cs ck : Prs} {ss : List Str} (hG : Good cs) (hn : (cs.map (·.1)).Nodup) (hP : ss.Perm (cs.map (·.1))) (hs : sortedS ss = true) :
    ss.foldl (tstep cs ck) (tbase cs ck) = Txt.join (Str.ofString "") (lall cs ck) := by
  have hm : ∀ x ∈ ss, x ∈ K5 := fun x hx => by
    obtain ⟨v, hv, hmem⟩ := lk_of_mem (hP.mem_iff.mp hx)
    exact (hG _ hmem).1
  have hmi : ∀ p, p ∈ ss ↔ (lk cs p).isSome = true := fun p => by
    constructor
    · intro hx
      obtain ⟨v, hv, _⟩ := lk_of_mem (hP.mem_iff.mp hx)
      rw [hv]; rfl
    · intro h
      cases e : lk cs p with
      | none => rw [e] at h; cases h
      | some v => exact hP.mem_iff.mpr (List.mem_map.mpr ⟨_, lk_mem e, rfl⟩)
  have e1 := inc_eq KS ss ks_rk (sorted_rk (hP.symm.nodup hn) hm hs) (fun p hp => k5_ks (hm p hp))
  have e2 : ss.foldl (tstep cs ck) (tbase cs ck) = KS.foldl (gstep cs ck) (tbase cs ck) := by
    conv => lhs; rw [e1]
    rw [List.foldl_filter]
    congr 1
    funext b p
    unfold gstep
    by_cases h : p ∈ ss
    · rw [if_pos (by simpa using h), if_pos ((hmi p).mp h)]
    · rw [if_neg (by simpa using h), if_neg (fun q => h ((hmi p).mpr q))]
  rw [e2]
  have hb : tbase cs ck = cat (lbase cs ck) := by
    unfold tbase lbase
    split
    · decide +kernel
    · decide +kernel
  have hx : ∀ b, gstep cs ck b (Str.ofString "xml") = b := fun b => by
    unfold gstep tstep
    split
    · rw [if_neg (fun q => q.1 rfl)]
    · rfl
  show gstep cs ck (gstep cs ck (gstep cs ck (gstep cs ck (gstep cs ck (tbase cs ck) (Str.ofString "")) (Str.ofString "a")) (Str.ofString "p")) (Str.ofString "q")) (Str.ofString "xml") = cat (lall cs ck)
  rw [hx, hb]
  rw [one_step (nm := Str.ofString " xmlns=") (by decide +kernel) (by rw [if_pos rfl]; exact l1)]
  rw [one_step (nm := Str.ofString " xmlns:a=") (by decide +kernel) (by rw [if_neg (by decide +kernel)]; exact l2)]
  rw [one_step (nm := Str.ofString " xmlns:p=") (by decide +kernel) (by rw [if_neg (by decide +kernel)]; exact l3)]
  rw [one_step (nm := Str.ofString " xmlns:q=") (by decide +kernel) (by rw [if_neg (by decide +kernel)]; exact l4)]
  rfl
end
section
theorem off_XW : True := by
  w_top off
  trivial
open PySem.Calls

abbrev ent (w : World) (k : Str) (t : Tok) (v : Value) : DictEntry := ⟨PyData.keyHash w.params k, .str k t, v⟩

theorem topNotIn_tup {w : World} {K : Frag} {A : Around} {E : Value → Shared → Prop} {s : Shared} {h₀ : Heap} {L a : Addr} {m : Str → Option Value} {n : Nat} {l : List Value} {ys : List Str} {dd : Option Addr} {sl : Array (Option Value)} {x : Str} {u : Tok} {b : Bool} {Q : Value → Shared → Prop} (F : Fr h₀ L s.heap m) (X₀ : K.In h₀)
    (hl : K.lookup a = some ⟨.type "tuple", dd, .seq l.toArray n, sl⟩) (hS : StrsAre l ys) (hb : (!(ys.any (· == x))) = b) (h : Q (.bool b) s) :
    wpAny (model PR w) A (compareOp .NotIn (.str x u) (.ref a)) Q E s := notin_tuple_strs (tupK (X₀.keeps F.keep) hl) hS (by rw [hb]; exact h)


theorem row_mc (w : World) {tr td rl : Addr} {kt tk : Tok} {nt nr : Nat} {vs : List Value} {k : Int} {v : Value} {led : Led} (h1 : (tr, instObj 288 td) ∈ led) (h2 : (td, dictOf [ent w (Str.ofString "rows") kt (.ref rl)] nt) ∈ led)
    (h3 : (rl, listOf vs.toArray nr) ∈ led) (h0 : 0 ≤ k) (hv : vs[k.toNat]? = some v) (hlen : vs.length ≤ 20) :
    MC w 1 12 131 [.ref tr, .int k tk] led (fun r news' => r = v ∧ news' = led) := by
  have : (fun (_ : OpenLaw) (_ : Params → Frag) => True) PySem.Challenge.rw_xm0663_01 hd.heap_39 := by (k_fill; trivial)
  unfold MC
  intro mean mg mb dp un gd cn cs' a ccd cl outer A₀ base h₀ L m s Q E B F X N T hk hdp hun hret
  obtain ⟨lz, hlz⟩ : ∃ lz : Int, (vs.length : Int) = lz := ⟨_, rfl⟩
  have hlt : k < (vs.length : Int) := by have := (List.getElem?_eq_some_iff.mp hv).1; omega
  refine wpAny_call ?_
  k_dflt cell_enter
  show let A₁ : Around := _; wpAny _ A₁ _ _ _ _
  intro A₁
  show let e₁ : Env := _; wpAny _ _ (execs _ e₁) _ _ _
  intro e₁
  repeat' (first | (k_unfold; (try dsimp only)) | (k_end; wrow_close) | ((with_reducible show wpAny _ _ (call (Value.ref _) _) _ _ _); k_here; (with_reducible show wpAny _ _ (call (Value.ref 131) _) _ _ _); k_dflt (refine' MC.use2 (row_mc _ ?h1 ?h2 ?h3 ?h0 ?hv ?hlen) ?_; (case h1 => k_mem); (case h2 => k_mem); (case h3 => k_mem); (case h0 => first | assumption | omega); (case hv => assumption); (case hlen => omega); intro zr9 znews9 zh9 ztk9 zF9 zN9 zhR9; obtain ⟨ze9, zel9⟩ := zhR9; subst ze9; subst znews9; (try k_sweep); (try dsimp only); (try k_fold))) | ((with_reducible show wpAny _ _ (subscriptTail _ _ (Value.ref _) _) _ _ _); k_here; (with_reducible show wpAny _ _ (subscriptTail _ _ (Value.ref _) (Value.int _ _)) _ _ _); k_dflt (refine item_led (News.isList (by k_asm) (by assumption)) (by assumption) (by omega) (by assumption) ?_)) | ((with_reducible show wpAny _ _ (call (Value.builtin "len") _) _ _ _); k_here; k_dflt (refine kun_lenL (News.isList (by k_asm) (by assumption)) (by simpa using (by assumption : ((_ : List Value).length : Int) = _)) (by omega) ?_)) | (walk1 <;> (try ((with_reducible show wpAny _ _ (exec _ _) _ _ _); k_fold))) | (dsimp only; walk1) | (leave1; (try dsimp only)))
  exact hret _ led _ _ (by k_asm) (by k_asm) ⟨rfl, rfl⟩

/-- a node's own names -/
inductive NodeEs (w : World) : List DictEntry → Value → Str → Str → Value → Prop
  | mk {t0 t1 t2 t3 t4 t5 t6 t7 t8 tp tu : Tok} {vk vu vl vpa vch vat vns : Value} {p u : Str} :
    NodeEs w [ent w (Str.ofString "kind") t0 vk, ent w (Str.ofString "name") t1 (.str p tp), ent w (Str.ofString "uri") t2 vu, ent w (Str.ofString "local") t3 vl, ent w (Str.ofString "value") t4 (.str u tu),
      ent w (Str.ofString "parent") t5 vpa, ent w (Str.ofString "children") t6 vch, ent w (Str.ofString "attributes") t7 vat, ent w (Str.ofString "namespaces") t8 vns] vk p u vns


theorem name_mc (w : World) {tr td rl x dx : Addr} {kt tk : Tok} {nt nr nd : Nat} {vs : List Value} {k : Int} {es : List DictEntry} {vk vns : Value} {p u : Str} {led : Led} (h1 : (tr, instObj 288 td) ∈ led) (h2 : (td, dictOf [ent w (Str.ofString "rows") kt (.ref rl)] nt) ∈ led)
    (h3 : (rl, listOf vs.toArray nr) ∈ led) (h0 : 0 ≤ k) (hv : vs[k.toNat]? = some (.ref x)) (hlen : vs.length ≤ 20) (h4 : (x, instObj 99 dx) ∈ led) (h5 : (dx, dictOf es nd) ∈ led) (hn : NodeEs w es vk p u vns) :
    MC w 2 24 215 [.ref tr, .int k tk] led (fun r news' => ∃ t, r = .str p t ∧ news' = led) := by
  have : (fun (_ : OpenLaw) (_ : Params → Frag) => True) PySem.Challenge.rw_xm0663_01 hd.heap_39 := by (k_fill; trivial)
  unfold MC
  intro mean mg mb dp un gd cn cs' a ccd cl outer A₀ base h₀ L m s Q E B F X N T hk hdp hun hret
  cases hn
  refine wpAny_call ?_
  k_dflt cell_enter
  show let A₁ : Around := _; wpAny _ A₁ _ _ _ _
  intro A₁
  show let e₁ : Env := _; wpAny _ _ (execs _ e₁) _ _ _
  intro e₁
  repeat' (first | (k_unfold; (try dsimp only)) | (k_end; wrow_close) | ((with_reducible show wpAny _ _ (call (Value.ref _) _) _ _ _); k_here; (with_reducible show wpAny _ _ (call (Value.ref 131) _) _ _ _); k_dflt (refine' MC.use2 (row_mc _ ?h1 ?h2 ?h3 ?h0 ?hv ?hlen) ?_; (case h1 => k_mem); (case h2 => k_mem); (case h3 => k_mem); (case h0 => first | assumption | omega); (case hv => assumption); (case hlen => omega); intro zr9 znews9 zh9 ztk9 zF9 zN9 zhR9; obtain ⟨ze9, zel9⟩ := zhR9; subst ze9; subst znews9; (try k_sweep); (try dsimp only); (try k_fold))) | ((with_reducible show wpAny _ _ (subscriptTail _ _ (Value.ref _) _) _ _ _); k_here; (with_reducible show wpAny _ _ (subscriptTail _ _ (Value.ref _) (Value.int _ _)) _ _ _); k_dflt (refine item_led (News.isList (by k_asm) (by assumption)) (by assumption) (by omega) (by assumption) ?_)) | ((with_reducible show wpAny _ _ (call (Value.builtin "len") _) _ _ _); k_here; k_dflt (refine kun_lenL (News.isList (by k_asm) (by assumption)) (by simpa using (by assumption : ((_ : List Value).length : Int) = _)) (by omega) ?_)) | (walk1 <;> (try ((with_reducible show wpAny _ _ (exec _ _) _ _ _); k_fold))) | (dsimp only; walk1) | (leave1; (try dsimp only)))
  exact hret _ led _ _ (by k_asm) (by k_asm) ⟨_, rfl, rfl⟩

theorem value_mc (w : World) {tr td rl x dx : Addr} {kt tk : Tok} {nt nr nd : Nat} {vs : List Value} {k : Int} {es : List DictEntry} {vk vns : Value} {p u : Str} {led : Led} (h1 : (tr, instObj 288 td) ∈ led) (h2 : (td, dictOf [ent w (Str.ofString "rows") kt (.ref rl)] nt) ∈ led)
    (h3 : (rl, listOf vs.toArray nr) ∈ led) (h0 : 0 ≤ k) (hv : vs[k.toNat]? = some (.ref x)) (hlen : vs.length ≤ 20) (h4 : (x, instObj 99 dx) ∈ led) (h5 : (dx, dictOf es nd) ∈ led) (hn : NodeEs w es vk p u vns) :
    MC w 2 24 236 [.ref tr, .int k tk] led (fun r news' => ∃ t, r = .str u t ∧ news' = led) := by
  have : (fun (_ : OpenLaw) (_ : Params → Frag) => True) PySem.Challenge.rw_xm0663_01 hd.heap_39 := by (k_fill; trivial)
  unfold MC
  intro mean mg mb dp un gd cn cs' a ccd cl outer A₀ base h₀ L m s Q E B F X N T hk hdp hun hret
  cases hn
  refine wpAny_call ?_
  k_dflt cell_enter
  show let A₁ : Around := _; wpAny _ A₁ _ _ _ _
  intro A₁
  show let e₁ : Env := _; wpAny _ _ (execs _ e₁) _ _ _
  intro e₁
  repeat' (first | (k_unfold; (try dsimp only)) | (k_end; wrow_close) | ((with_reducible show wpAny _ _ (call (Value.ref _) _) _ _ _); k_here; (with_reducible show wpAny _ _ (call (Value.ref 131) _) _ _ _); k_dflt (refine' MC.use2 (row_mc _ ?h1 ?h2 ?h3 ?h0 ?hv ?hlen) ?_; (case h1 => k_mem); (case h2 => k_mem); (case h3 => k_mem); (case h0 => first | assumption | omega); (case hv => assumption); (case hlen => omega); intro zr9 znews9 zh9 ztk9 zF9 zN9 zhR9; obtain ⟨ze9, zel9⟩ := zhR9; subst ze9; subst znews9; (try k_sweep); (try dsimp only); (try k_fold))) | ((with_reducible show wpAny _ _ (subscriptTail _ _ (Value.ref _) _) _ _ _); k_here; (with_reducible show wpAny _ _ (subscriptTail _ _ (Value.ref _) (Value.int _ _)) _ _ _); k_dflt (refine item_led (News.isList (by k_asm) (by assumption)) (by assumption) (by omega) (by assumption) ?_)) | ((with_reducible show wpAny _ _ (call (Value.builtin "len") _) _ _ _); k_here; k_dflt (refine kun_lenL (News.isList (by k_asm) (by assumption)) (by simpa using (by assumption : ((_ : List Value).length : Int) = _)) (by omega) ?_)) | (walk1 <;> (try ((with_reducible show wpAny _ _ (exec _ _) _ _ _); k_fold))) | (dsimp only; walk1) | (leave1; (try dsimp only)))
  exact hret _ led _ _ (by k_asm) (by k_asm) ⟨_, rfl, rfl⟩
end
section
theorem off_XY1 : True := by
  w_top off
  trivial
open PySem.Calls
theorem append_L {w : World} {A : Around} {E : Value → Shared → Prop} {s : Shared} {h₀ : Heap} {L D : Addr} {m : Str → Option Value} {news : Led} {g : Obj → Led} {vs : List Value} {n : Nat} {x : Value} {Q : Value → Shared → Prop} (F : Fr h₀ L s.heap m) (N : News h₀ L s.heap news) (U : UpdF D (listOf vs.toArray n) news g) (hsz : vs.length ≤ 100)
    (h : ∀ h', Fr h₀ L h' m → News h₀ L h' (g (listOf (vs ++ [x]).toArray (n + 1))) → Q .none { s with heap := h' }) : wpAny (model PR w) A (call (.builtin "list.append") [.ref D, x]) Q E s := by
  refine append_K (its := vs.toArray) (n := n) F N (news' := g (listOf (vs ++ [x]).toArray (n + 1))) ?_ h (by rw [sizeLine_eq, List.size_toArray]; omega)
  have := UpdF.toUpd (o' := listOf (vs ++ [x]).toArray (n + 1)) U
  rw [List.push_toArray]
  exact this
theorem lt_allLt {d : Addr} {l : Led} (h : AllLt d l) : ∀ p ∈ l, p.1 < d := by
  induction l with
  | nil => exact fun _ h => nomatch h
  | cons q r ih =>
    have h' : q.1 < d ∧ AllLt d r := h
    intro p hp
    rcases List.mem_cons.mp hp with e | hp
    · rw [e]; exact h'.1
    · exact ih h'.2 p hp
/-- a new node's names: its three lists too -/
inductive NodeEsC (w : World) : List DictEntry → Value → Str → Str → Addr → Addr → Addr → Prop
  | mk {t0 t1 t2 t3 t4 t5 t6 t7 t8 tp tu : Tok} {vk vu vl vpa : Value} {p u : Str} {c1 c2 c3 : Addr} :
    NodeEsC w [ent w (Str.ofString "kind") t0 vk, ent w (Str.ofString "name") t1 (.str p tp), ent w (Str.ofString "uri") t2 vu, ent w (Str.ofString "local") t3 vl, ent w (Str.ofString "value") t4 (.str u tu),
      ent w (Str.ofString "parent") t5 vpa, ent w (Str.ofString "children") t6 (.ref c1), ent w (Str.ofString "attributes") t7 (.ref c2), ent w (Str.ofString "namespaces") t8 (.ref c3)] vk p u c1 c2 c3
theorem NodeEsC.es {w : World} {es : List DictEntry} {vk : Value} {p u : Str} {c1 c2 c3 : Addr} (h : NodeEsC w es vk p u c1 c2 c3) : NodeEs w es vk p u (.ref c3) := by cases h; exact .mk
theorem nmR {w : World} {P : Prop} {h₀ h : Heap} {L c3 c2 c1 x d : Addr} {o3 o2 o1 : Obj} {es : List DictEntry} {kv : Value} {p u : Str} {l : Led} (N : News h₀ L h ((c3, o3) :: (c2, o2) :: (c1, o1) :: (x, instObj 99 d) :: (d, dictOf es 9) :: l)) (hes : NodeEsC w es kv p u c1 c2 c3)
    (k : ∀ a3 a2 a1 ax ad es', NodeEsC w es' kv p u a1 a2 a3 → News h₀ L h ((a3, o3) :: (a2, o2) :: (a1, o1) :: (ax, instObj 99 ad) :: (ad, dictOf es' 9) :: l) → a3 = c3 → a2 = c2 → a1 = c1 → ax = x → ad = d → P) : P := k _ _ _ _ _ _ hes N rfl rfl rfl rfl rfl
theorem subR {a b c d e f : Addr × Obj} {l : Led} : ∀ p ∈ f :: a :: b :: c :: d :: e :: l, p ∈ a :: b :: c :: d :: e :: f :: l :=
  sub_cons (.tail _ (.tail _ (.tail _ (.tail _ (.tail _ (.head _)))))) (sub_cons (.head _) (sub_cons (.tail _ (.head _)) (sub_cons (.tail _ (.tail _ (.head _))) (sub_cons (.tail _ (.tail _ (.tail _ (.head _)))) (sub_cons (.tail _ (.tail _ (.tail _ (.tail _ (.head _))))) (fun _ hp => .tail _ (.tail _ (.tail _ (.tail _ (.tail _ (.tail _ hp)))))))))))
theorem sizeR {vs : List Value} {v : Value} : (((vs ++ [v]).toArray.size : Nat) : Int) - 1 = (vs.length : Int) := by simp
theorem ltR {d rl : Addr} {o : Obj} {l : Led} (h : rl < d ∧ AllLt d l) : ∀ p ∈ (rl, o) :: l, p.1 < d := by
  intro p hp
  rcases List.mem_cons.mp hp with rfl | hp
  · exact h.1
  · exact lt_allLt h.2 p hp
theorem newrow_mc (w : World) {tr td rl : Addr} {kt tkd tp tq tlo tu : Tok} {kd p q lo u : Str} {pv : Value} {nt nr : Nat} {vs : List Value} {rest : Led} (h1 : (tr, instObj 288 td) ∈ rest) (h2 : (td, dictOf [ent w (Str.ofString "rows") kt (.ref rl)] nt) ∈ rest)
    (hr : ∀ p ∈ rest, p.1 ≠ rl) (hlen : vs.length ≤ 20) :
    MC w 4 24 124 [Value.ref tr, Value.str kd tkd, Value.str p tp, Value.str q tq, Value.str lo tlo, Value.str u tu, pv] ((rl, listOf vs.toArray nr) :: rest)
      (fun r news' => ∃ (k : Int) (t : Tok) (x d c1 c2 c3 : Addr) (es : List DictEntry), r = .int k t ∧ k = (vs.length : Int) ∧ NodeEsC w es (.str kd tkd) p u c1 c2 c3 ∧ (∀ p ∈ (rl, listOf vs.toArray nr) :: rest, p.1 < d) ∧ d < x ∧ x < c1 ∧ c1 < c2 ∧ c2 < c3 ∧
        news' = (rl, listOf (vs ++ [Value.ref x]).toArray (nr + 1)) :: (c3, listOf #[] 0) :: (c2, listOf #[] 0) :: (c1, listOf #[] 0) :: (x, instObj 99 d) :: (d, dictOf es 9) :: rest) := by
  have : (fun (_ : OpenLaw) (_ : Params → Frag) => True) PySem.Challenge.rw_xm0663_01 hd.heap_39 := by (k_fill; trivial)
  unfold MC
  intro mean mg mb dp un gd cn cs' a ccd cl outer A₀ base h₀ L m s Q E B F X N T hk hdp hun hret
  refine wpAny_call ?_
  k_dflt cell_enter
  show let A₁ : Around := _; wpAny _ A₁ _ _ _ _
  intro A₁
  show let e₁ : Env := _; wpAny _ _ (execs _ e₁) _ _ _
  intro e₁
  repeat' ((fail_if_success (with_reducible show wpAny _ _ (call (Value.builtin "list.append") _) _ _ _)); (first | (k_unfold; (try dsimp only)) | (k_end; wrow_close) | ((with_reducible show wpAny _ _ (call (Value.builtin "len") _) _ _ _); k_here; k_dflt (refine kun_lenL (News.isList (by k_asm) (by k_mem)) rfl (by simp only [List.size_toArray, List.length_append, List.length_cons, List.length_nil]; omega) ?_)) | (walk1 <;> (try ((with_reducible show wpAny _ _ (exec _ _) _ _ _); k_fold))) | (dsimp only; walk1) | (leave1; (try dsimp only))))
  rename News _ _ _ (_ :: _ :: _ :: _ :: _ :: (rl, _) :: rest) => N1
  rename rl < _ ∧ AllLt _ rest => q1
  rename _ < _ ∧ _ < _ ∧ rl < _ ∧ AllLt _ rest => q2
  rename _ < _ ∧ _ < _ ∧ _ < _ ∧ rl < _ ∧ AllLt _ rest => q3
  rename _ < _ ∧ _ < _ ∧ _ < _ ∧ _ < _ ∧ rl < _ ∧ AllLt _ rest => q4
  refine nmR (w := w) N1 .mk fun c3 c2 c1 x d es hes N2 z1 z2 z3 z4 z5 => ?_
  subst z1; subst z2; subst z3; subst z4; subst z5
  rename d < x => q5
  have N3 := News.sub N2 subR
  clear N1 N2
  refine append_L (by assumption) N3 (.head fun p hp => ?_) (by omega) fun h6 F6 N6 => ?_
  · rcases List.mem_cons.mp hp with rfl | hp
    · exact Nat.ne_of_gt q4.2.2.2.2.1
    rcases List.mem_cons.mp hp with rfl | hp
    · exact Nat.ne_of_gt q3.2.2.2.1
    rcases List.mem_cons.mp hp with rfl | hp
    · exact Nat.ne_of_gt q2.2.2.1
    rcases List.mem_cons.mp hp with rfl | hp
    · exact Nat.ne_of_gt (Nat.lt_trans q1.1 q5)
    rcases List.mem_cons.mp hp with rfl | hp
    · exact Nat.ne_of_gt q1.1
    · exact hr p hp
  clear N3
  repeat' (first | (k_unfold; (try dsimp only)) | (k_end; wrow_close) | ((with_reducible show wpAny _ _ (call (Value.builtin "len") _) _ _ _); k_here; k_dflt (refine kun_lenL (News.isList (by k_asm) (by k_mem)) rfl (by simp only [List.size_toArray, List.length_append, List.length_cons, List.length_nil]; omega) ?_)) | (walk1 <;> (try ((with_reducible show wpAny _ _ (exec _ _) _ _ _); k_fold))) | (dsimp only; walk1) | (leave1; (try dsimp only)))
  exact hret _ _ _ _ (by k_asm) (by k_asm) ⟨_, _, x, d, c1, c2, c3, es, rfl, sizeR, hes, ltR q1, q5, q2.1, q3.1, q4.1, rfl⟩
end
section
open PySem.Calls

structure NR where
  x : Addr
  d : Addr
  es : List DictEntry
  p : Str
  u : Str
def nodesL (N : List NR) : Led := N.flatMap fun r => [(r.x, instObj 99 r.d), (r.d, dictOf r.es 9)]
def NodeOK (w : World) (r : NR) : Prop := ∃ vk vns, NodeEs w r.es vk r.p r.u vns
def pairs (N : List NR) : Prs := N.map fun r => (r.p, r.u)

theorem nodesL_app (a b : List NR) : nodesL (a ++ b) = nodesL a ++ nodesL b := by simp [nodesL]
theorem nodesL_cons (r : NR) (b : List NR) : nodesL (r :: b) = (r.x, instObj 99 r.d) :: (r.d, dictOf r.es 9) :: nodesL b := rfl
theorem nodesL_in {N : List NR} {r : NR} (h : r ∈ N) : (r.x, instObj 99 r.d) ∈ nodesL N ∧ (r.d, dictOf r.es 9) ∈ nodesL N := by
  unfold nodesL
  exact ⟨List.mem_flatMap.mpr ⟨r, h, .head _⟩, List.mem_flatMap.mpr ⟨r, h, .tail _ (.head _)⟩⟩

theorem UpdF.app {d : Addr} {o : Obj} {l : Led} {g : Obj → Led} (U : UpdF d o l g) : ∀ {pre : Led}, (∀ p ∈ pre, p.1 ≠ d) → UpdF d o (pre ++ l) (fun o' => pre ++ g o')
  | [], _ => U
  | p :: pre, h => .tail (h p (.head _)) (UpdF.app U fun q hq => h q (.tail _ hq))
/-- the tree on the ledger -/
structure TI (w : World) (tr rl el nl : Addr) (vs ns : List Value) (N : List NR) (rest : Led) : Prop where
  td : ∃ td kt nt, (tr, instObj 288 td) ∈ rest ∧ (td, dictOf [ent w (Str.ofString "rows") kt (.ref rl)] nt) ∈ rest
  ed : ∃ ed es n t p u, (el, instObj 99 ed) ∈ rest ∧ (ed, dictOf es n) ∈ rest ∧ NodeEs w es (.str (Str.ofString "element") t) p u (.ref nl)
  hrl : rl ≠ nl
  hr : ∀ p ∈ nodesL N ++ rest, p.1 ≠ rl
  hn : ∀ p ∈ nodesL N ++ rest, p.1 ≠ nl
  nd : ((nodesL N).map (·.1)).Nodup
  ap : ∀ p ∈ nodesL N, ∀ q ∈ rest, p.1 ≠ q.1
  ok : ∀ r ∈ N, NodeOK w r
  vs : ∃ rt, vs = .ref rt :: .ref el :: N.map (fun r => .ref r.x)
  nsl : ns.length = N.length
  nsv : ∀ (i : Nat) v, ns[i]? = some v → ∃ t, v = .int ((i : Int) + 2) t
  pn : (N.map (·.p)).Nodup

theorem TI.upd {w : World} {tr rl el nl : Addr} {vs ns : List Value} {N pre post : List NR} {r : NR} {rest : Led} (T : TI w tr rl el nl vs ns N rest) (e : N = pre ++ r :: post) :
    UpdF r.d (dictOf r.es 9) (nodesL N ++ rest) (fun o' => nodesL pre ++ (r.x, instObj 99 r.d) :: (r.d, o') :: (nodesL post ++ rest)) := by
  subst e
  have hnd := T.nd
  have hap := T.ap
  rw [nodesL_app, nodesL_cons] at hnd hap ⊢
  rw [List.map_append, List.map_cons, List.map_cons] at hnd
  have h1 := List.nodup_append.mp hnd
  have h2 := List.nodup_cons.mp h1.2.1
  have h3 := List.nodup_cons.mp h2.2
  rw [List.append_assoc, List.cons_append, List.cons_append]
  refine UpdF.app (.tail (fun z => h2.1 (by rw [z]; exact .head _)) (.head fun p hp z => ?_)) fun p hp z => ?_
  · rcases List.mem_append.mp hp with hp | hp
    · exact h3.1 (List.mem_map.mpr ⟨p, hp, z⟩)
    · exact hap (r.d, dictOf r.es 9) (List.mem_append_right _ (.tail _ (.head _))) p hp z.symm
  · exact h1.2.2 _ (List.mem_map.mpr ⟨p, hp, rfl⟩) r.d (.tail _ (.head _)) z

theorem nodesL_mid {pre post : List NR} {rest : Led} {x d : Addr} {es : List DictEntry} (p u : Str) :
    nodesL (pre ++ ⟨x, d, es, p, u⟩ :: post) ++ rest = nodesL pre ++ (x, instObj 99 d) :: (d, dictOf es 9) :: (nodesL post ++ rest) := by
  simp [nodesL_app, nodesL_cons]
theorem nodesL_fst {pre post : List NR} {x d : Addr} {es es' : List DictEntry} {p u u' : Str} :
    (nodesL (pre ++ ⟨x, d, es', p, u'⟩ :: post)).map (·.1) = (nodesL (pre ++ ⟨x, d, es, p, u⟩ :: post)).map (·.1) := by
  simp [nodesL_app, nodesL_cons]
theorem fst_in {l l' : Led} (e : l'.map (·.1) = l.map (·.1)) {p : Addr × Obj} (h : p ∈ l') : ∃ q ∈ l, q.1 = p.1 := by
  have : p.1 ∈ l.map (·.1) := by rw [← e]; exact List.mem_map.mpr ⟨p, h, rfl⟩
  obtain ⟨q, hq, e⟩ := List.mem_map.mp this
  exact ⟨q, hq, e⟩
theorem put_mid {pre post : Prs} {p u u' : Str} (hn : ((pre ++ (p, u) :: post).map (·.1)).Nodup) : put (pre ++ (p, u) :: post) p u' = pre ++ (p, u') :: post := by
  unfold put
  rw [if_pos (by simp)]
  rw [List.map_append, List.map_cons] at hn
  have h1 := List.nodup_append.mp hn
  have h2 := List.nodup_cons.mp h1.2.1
  have e1 : ∀ (l : Prs), (∀ q ∈ l, q.1 ≠ p) → l.map (fun q => if q.1 = p then (q.1, u') else q) = l := by
    intro l hl
    conv => rhs; rw [← List.map_id l]
    exact List.map_congr_left fun q hq => by simp [hl q hq]
  rw [List.map_append, List.map_cons, if_pos rfl]
  rw [e1 pre (fun q hq z => h1.2.2 _ (List.mem_map.mpr ⟨q, hq, rfl⟩) p (.head _) z), e1 post (fun q hq z => h2.1 (List.mem_map.mpr ⟨q, hq, z⟩))]
theorem put_end {c : Prs} {p u : Str} (hn : ∀ q ∈ c, q.1 ≠ p) : put c p u = c ++ [(p, u)] := by
  unfold put
  rw [if_neg]
  intro h
  obtain ⟨q, hq, e⟩ := List.any_eq_true.mp h
  exact hn q hq (of_decide_eq_true e)

theorem TI.set {w : World} {tr rl el nl : Addr} {vs ns : List Value} {N pre post : List NR} {x d : Addr} {es es' : List DictEntry} {p u u' : Str} {rest : Led} (T : TI w tr rl el nl vs ns N rest) (e : N = pre ++ ⟨x, d, es, p, u⟩ :: post)
    (hok : ∃ vk vns, NodeEs w es' vk p u' vns) : TI w tr rl el nl vs ns (pre ++ ⟨x, d, es', p, u'⟩ :: post) rest ∧ pairs (pre ++ ⟨x, d, es', p, u'⟩ :: post) = put (pairs N) p u' ∧ (pre ++ NR.mk x d es' p u' :: post).length ≤ N.length + 1 := by
  subst e
  have ef := nodesL_fst (pre := pre) (post := post) (x := x) (d := d) (es := es) (es' := es') (p := p) (u := u) (u' := u')
  refine ⟨⟨T.td, T.ed, T.hrl, ?_, ?_, ?_, ?_, ?_, ?_, ?_, T.nsv, ?_⟩, ?_, ?_⟩
  · intro q hq
    rcases List.mem_append.mp hq with hq | hq
    · obtain ⟨q', hq', e⟩ := fst_in ef hq
      rw [← e]; exact T.hr q' (List.mem_append_left _ hq')
    · exact T.hr q (List.mem_append_right _ hq)
  · intro q hq
    rcases List.mem_append.mp hq with hq | hq
    · obtain ⟨q', hq', e⟩ := fst_in ef hq
      rw [← e]; exact T.hn q' (List.mem_append_left _ hq')
    · exact T.hn q (List.mem_append_right _ hq)
  · rw [ef]; exact T.nd
  · intro q hq q2 hq2
    obtain ⟨q', hq', e⟩ := fst_in ef hq
    rw [← e]; exact T.ap q' hq' q2 hq2
  · intro r hr
    rcases List.mem_append.mp hr with hr | hr
    · exact T.ok r (List.mem_append_left _ hr)
    · rcases List.mem_cons.mp hr with rfl | hr
      · exact hok
      · exact T.ok r (List.mem_append_right _ (.tail _ hr))
  · obtain ⟨rt, h⟩ := T.vs
    exact ⟨rt, by rw [h]; simp⟩
  · rw [T.nsl]; simp
  · have := T.pn
    simpa using this
  · have hn := T.pn
    unfold pairs
    rw [List.map_append, List.map_cons, List.map_append, List.map_cons, put_mid]
    simpa [Function.comp_def] using hn
  · simp

theorem TI.add {w : World} {tr rl el nl : Addr} {vs ns : List Value} {N : List NR} {x d : Addr} {es : List DictEntry} {p u : Str} {rest : Led} {k : Int} {t : Tok} (T : TI w tr rl el nl vs ns N rest)
    (hok : ∃ vk vns, NodeEs w es vk p u vns) (h1 : rl < d ∧ nl < d ∧ AllLt d (nodesL N ++ rest)) (h2 : d < x) (hp : ∀ r ∈ N, r.p ≠ p) (hk : k = (N.length : Int) + 2) :
    TI w tr rl el nl (vs ++ [.ref x]) (ns ++ [.int k t]) (N ++ [⟨x, d, es, p, u⟩]) rest ∧ pairs (N ++ [⟨x, d, es, p, u⟩]) = put (pairs N) p u ∧ (N ++ [NR.mk x d es p u]).length ≤ N.length + 1 := by
  obtain ⟨a1, a2, a3⟩ := h1
  have a3 := lt_allLt a3
  have hm : ∀ q ∈ nodesL (N ++ [⟨x, d, es, p, u⟩]), q ∈ nodesL N ∨ q.1 = x ∨ q.1 = d := by
    intro q hq
    simp only [nodesL_app, nodesL_cons, List.mem_cons, List.mem_append] at hq
    rcases hq with h | h | h | h
    · exact .inl h
    · exact .inr (.inl (by rw [h]))
    · exact .inr (.inr (by rw [h]))
    · simp [nodesL] at h
  refine ⟨⟨T.td, T.ed, T.hrl, ?_, ?_, ?_, ?_, ?_, ?_, ?_, ?_, ?_⟩, ?_, ?_⟩
  · intro q hq
    rcases List.mem_append.mp hq with hq | hq
    · rcases hm q hq with h | h | h
      · exact T.hr q (List.mem_append_left _ h)
      · rw [h]; exact Nat.ne_of_gt (Nat.lt_trans a1 h2)
      · rw [h]; exact Nat.ne_of_gt a1
    · exact T.hr q (List.mem_append_right _ hq)
  · intro q hq
    rcases List.mem_append.mp hq with hq | hq
    · rcases hm q hq with h | h | h
      · exact T.hn q (List.mem_append_left _ h)
      · rw [h]; exact Nat.ne_of_gt (Nat.lt_trans a2 h2)
      · rw [h]; exact Nat.ne_of_gt a2
    · exact T.hn q (List.mem_append_right _ hq)
  · rw [nodesL_app, nodesL_cons, List.map_append]
    refine List.nodup_append.mpr ⟨T.nd, ?_, ?_⟩
    · simp [nodesL]; exact Nat.ne_of_gt h2
    · intro y hy z hz
      obtain ⟨q, hq, rfl⟩ := List.mem_map.mp hy
      have := a3 q (List.mem_append_left _ hq)
      simp [nodesL] at hz
      rcases hz with rfl | rfl
      · exact Nat.ne_of_lt (Nat.lt_trans this h2)
      · exact Nat.ne_of_lt this
  · intro q hq q2 hq2
    have := a3 q2 (List.mem_append_right _ hq2)
    rcases hm q hq with h | h | h
    · exact T.ap q h q2 hq2
    · rw [h]; exact Nat.ne_of_gt (Nat.lt_trans this h2)
    · rw [h]; exact Nat.ne_of_gt this
  · intro r hr
    rcases List.mem_append.mp hr with hr | hr
    · exact T.ok r hr
    · rw [List.mem_singleton.mp hr]; exact hok
  · obtain ⟨rt, h⟩ := T.vs
    exact ⟨rt, by rw [h]; simp⟩
  · simp [T.nsl]
  · intro i v hv
    by_cases hi : i < ns.length
    · rw [List.getElem?_append_left hi] at hv; exact T.nsv i v hv
    · rw [List.getElem?_append_right (by omega)] at hv
      have hi2 : i - ns.length = 0 := by
        have := (List.getElem?_eq_some_iff.mp hv).1
        simp at this; omega
      rw [hi2] at hv
      simp at hv
      refine ⟨t, ?_⟩
      rw [← hv, hk]
      have : i = N.length := by have := T.nsl; omega
      rw [this]
  · rw [List.map_append]
    refine List.nodup_append.mpr ⟨T.pn, by simp, ?_⟩
    intro y hy z hz
    obtain ⟨r, hr, rfl⟩ := List.mem_map.mp hy
    simp at hz
    rw [hz]; exact hp r hr
  · unfold pairs
    rw [put_end, List.map_append]
    · rfl
    · intro q hq
      obtain ⟨r, hr, rfl⟩ := List.mem_map.mp hq
      exact hp r hr
  · simp
end
section
theorem off_XY : True := by
  w_top off
  trivial
open PySem.Calls



theorem subA {r c3 c2 c1 x d n : Addr × Obj} {l : Led} : ∀ p ∈ n :: r :: x :: d :: l, p ∈ r :: c3 :: c2 :: c1 :: x :: d :: n :: l :=
  sub_cons (.tail _ (.tail _ (.tail _ (.tail _ (.tail _ (.tail _ (.head _))))))) (sub_cons (.head _) (sub_cons (.tail _ (.tail _ (.tail _ (.tail _ (.head _))))) (sub_cons (.tail _ (.tail _ (.tail _ (.tail _ (.tail _ (.head _)))))) (fun _ hp => .tail _ (.tail _ (.tail _ (.tail _ (.tail _ (.tail _ (.tail _ hp))))))))))
theorem subB {R1 R2 : Addr × Obj} {N : List NR} {rest : Led} {x d : Addr} {es : List DictEntry} (p u : Str) :
    ∀ q ∈ R1 :: R2 :: (nodesL (N ++ [⟨x, d, es, p, u⟩]) ++ rest), q ∈ R2 :: R1 :: (x, instObj 99 d) :: (d, dictOf es 9) :: (nodesL N ++ rest) := by
  refine sub_cons (.tail _ (.head _)) (sub_cons (.head _) fun q hq => ?_)
  rw [nodesL_app] at hq
  rcases List.mem_append.mp hq with hq | hq
  · rcases List.mem_append.mp hq with hq | hq
    · exact .tail _ (.tail _ (.tail _ (.tail _ (List.mem_append_left _ hq))))
    · rcases List.mem_cons.mp hq with rfl | hq
      · exact .tail _ (.tail _ (.head _))
      rcases List.mem_cons.mp hq with rfl | hq
      · exact .tail _ (.tail _ (.tail _ (.head _)))
      · exact nomatch hq
  · exact .tail _ (.tail _ (.tail _ (.tail _ (List.mem_append_right _ hq))))
theorem addns_mc (w : World) {tr rl el nl : Addr} {nr nn : Nat} {vs ns : List Value} {N : List NR} {rest : Led} {p u : Str} {t1 tp tu : Tok} (I : TI w tr rl el nl vs ns N rest) (hlen : N.length ≤ 10) :
    MC w 6 48 194 [.ref tr, .int 1 t1, .str p tp, .str u tu] ((rl, listOf vs.toArray nr) :: (nl, listOf ns.toArray nn) :: (nodesL N ++ rest))
      (fun r news' => ∃ vs' ns' N' nr' nn', TI w tr rl el nl vs' ns' N' rest ∧ pairs N' = put (pairs N) p u ∧ N'.length ≤ N.length + 1 ∧ news' = (rl, listOf vs'.toArray nr') :: (nl, listOf ns'.toArray nn') :: (nodesL N' ++ rest)) := by
  have : (fun (_ : OpenLaw) (_ : Params → Frag) => True) PySem.Challenge.rw_xm0663_01 hd.heap_39 := by (k_fill; trivial)
  unfold MC
  intro mean mg mb dp un gd cn cs' a ccd cl outer A₀ base h₀ L m s Q E B F X Nw T hk hdp hun hret
  obtain ⟨td, kt, nt, htr, htd⟩ := I.td
  obtain ⟨ed, es, ne, te, pe, ue, hel, hed, hes⟩ := I.ed
  obtain ⟨rt, hvs⟩ := I.vs
  have g1 := List.mem_append_right (nodesL N) htr
  have g2 := List.mem_append_right (nodesL N) htd
  have g3 := List.mem_append_right (nodesL N) hel
  have g4 := List.mem_append_right (nodesL N) hed
  have hv1 : vs[(1 : Int).toNat]? = some (.ref el) := by rw [hvs]; rfl
  have hvl : vs.length = N.length + 2 := by rw [hvs]; simp
  have hv20 : vs.length ≤ 20 := by omega
  have hn20 : ns.length ≤ 20 := by rw [I.nsl]; omega
  cases hes
  have q1 := I.hrl
  have q2 := I.hrl.symm
  have q3 := I.hr
  have q4 := I.hn
  have q5 := I.nsl
  refine wpAny_call ?_
  k_dflt cell_enter
  repeat' ((fail_if_success (with_reducible show wpAny _ _ (pyIter (Value.ref _)) _ _ _)); (first | (k_unfold; (try dsimp only)) | (k_end; wrow_close) | ((with_reducible show wpAny _ _ (call (Value.builtin "len") _) _ _ _); k_here; k_dflt (refine kun_lenL (News.isList (by k_asm) (by k_mem)) rfl (by simp only [List.size_toArray, List.length_append, List.length_cons, List.length_nil]; omega) ?_)) | ((with_reducible show wpAny _ _ (call (Value.builtin "list.append") _) _ _ _); k_here; (with_reducible show wpAny _ _ (call (Value.builtin _) [Value.ref _, _]) _ _ _); k_dflt (refine' append_K ?k1 ?k2 ?k3 ?_ ?z; (case k1 => k_asm); (case k2 => k_asm); (case k3 => k_upd); (case z => (rw [sizeLine_eq]; simp only [List.size_toArray]; omega)); k_whole); intro zhq zFq zNq; (try simp only [List.push_toArray] at zNq); (try k_sweep)) | ((with_reducible show wpAny _ _ (subscriptTail _ _ (Value.ref _) _) _ _ _); k_here; (with_reducible show wpAny _ _ (subscriptTail _ _ (Value.ref _) (Value.int _ _)) _ _ _); k_dflt (refine item_led (News.isList (by k_asm) (by k_mem)) (by assumption) (by omega) (by assumption) ?_)) | ((with_reducible show wpAny _ _ (call (Value.ref _) _) _ _ _); k_here; (with_reducible show wpAny _ _ (call (Value.ref 131) _) _ _ _); k_dflt (refine' MC.use2 (row_mc _ ?h1 ?h2 ?h3 ?h0 ?hv ?hlen) ?_; (case h1 => k_mem); (case h2 => k_mem); (case h3 => k_mem); (case h0 => first | assumption | omega); (case hv => assumption); (case hlen => omega); intro zr9 znews9 zh9 ztk9 zF9 zN9 zhR9; obtain ⟨ze9, zel9⟩ := zhR9; subst ze9; subst znews9; (try k_sweep); (try dsimp only); (try k_fold))) | (walk1 <;> (try ((with_reducible show wpAny _ _ (exec _ _) _ _ _); k_fold))) | (dsimp only; walk1) | (leave1; (try dsimp only))))
  rename Fr _ _ _ _ => F1
  rename News _ _ _ _ => N1
  refine list_inv (ax := nl) (nn := nn) (vs := ns) [] (fun i u nx => nx = (rl, listOf vs.toArray nr) :: (nl, listOf ns.toArray nn) :: (nodesL N ++ rest) ∧ ∀ r ∈ N.take i, r.p ≠ p) (by rfl) F1 N1 (.tail _ (.head _)) ⟨rfl, by simp⟩ ?turn ?done
  case turn =>
    intro I9 i v u9 h tk nx it hv hJ hI hlp hc F2 N2
    obtain ⟨rfl, hpre⟩ := hJ
    obtain ⟨t9, rfl⟩ := I.nsv i v hv
    have hi : i < N.length := by have := (List.getElem?_eq_some_iff.mp hv).1; rw [I.nsl] at this; exact this
    obtain ⟨r, hr⟩ : ∃ r, N[i]? = some r := ⟨N[i], by simp [hi]⟩
    have hv2 : vs[((i : Int) + 2).toNat]? = some (.ref r.x) := by
      rw [hvs, show ((i : Int) + 2).toNat = i + 2 by omega]
      simp [hr]
    have hrm := List.mem_of_getElem? hr
    have eN : N = N.take i ++ r :: N.drop (i + 1) := by
      have : r = N[i] := by have := hr; simp [hi] at this; exact this.symm
      rw [this, List.getElem_cons_drop, List.take_append_drop]
    have hU := I.upd eN
    have g5 := List.mem_append_left rest (nodesL_in hrm).1
    have g6 := List.mem_append_left rest (nodesL_in hrm).2
    have n1 : I9 ≠ r.d := fun z => hI _ (.tail _ (.tail _ g6)) z.symm
    have n2 : rl ≠ r.d := fun z => I.hr _ g6 z.symm
    have n3 : nl ≠ r.d := fun z => I.hn _ g6 z.symm
    have h02 : (0 : Int) ≤ (i : Int) + 2 := by omega
    obtain ⟨vk, vns, hnode⟩ := I.ok r hrm
    obtain ⟨rx, rd, res, rp, ru⟩ := r
    dsimp only at hnode g5 g6 hU n1 n2 n3 hv2 hr
    cases hnode
    clear F1 N1
    repeat' (first | (k_unfold; (try dsimp only)) | (k_end; wrow_close) | ((with_reducible show wpAny _ _ (call (Value.builtin "len") _) _ _ _); k_here; k_dflt (refine kun_lenL (News.isList (by k_asm) (by k_mem)) rfl (by simp only [List.size_toArray, List.length_append, List.length_cons, List.length_nil]; omega) ?_)) | ((with_reducible show wpAny _ _ (call (Value.builtin "list.append") _) _ _ _); k_here; (with_reducible show wpAny _ _ (call (Value.builtin _) [Value.ref _, _]) _ _ _); k_dflt (refine' append_K ?k1 ?k2 ?k3 ?_ ?z; (case k1 => k_asm); (case k2 => k_asm); (case k3 => k_upd); (case z => (rw [sizeLine_eq]; simp only [List.size_toArray]; omega)); k_whole); intro zhq zFq zNq; (try simp only [List.push_toArray] at zNq); (try k_sweep)) | ((with_reducible show wpAny _ _ (subscriptTail _ _ (Value.ref _) _) _ _ _); k_here; (with_reducible show wpAny _ _ (subscriptTail _ _ (Value.ref _) (Value.int _ _)) _ _ _); k_dflt (refine item_led (News.isList (by k_asm) (by k_mem)) (by assumption) (by omega) (by assumption) ?_)) | ((with_reducible show wpAny _ _ (call (Value.ref _) _) _ _ _); k_here; (with_reducible show wpAny _ _ (call (Value.ref 131) _) _ _ _); k_dflt (refine' MC.use2 (row_mc _ ?h1 ?h2 ?h3 ?h0 ?hv ?hlen) ?_; (case h1 => k_mem); (case h2 => k_mem); (case h3 => k_mem); (case h0 => first | assumption | omega); (case hv => assumption); (case hlen => omega); intro zr9 znews9 zh9 ztk9 zF9 zN9 zhR9; obtain ⟨ze9, zel9⟩ := zhR9; subst ze9; subst znews9; (try k_sweep); (try dsimp only); (try k_fold))) | (walk1 <;> (try ((with_reducible show wpAny _ _ (exec _ _) _ _ _); k_fold))) | (dsimp only; walk1) | (leave1; (try dsimp only)))
    · rename (rp == p) = true => hpp
      have hpp := beq_t hpp
      subst hpp
      refine LPost.ret ?_
      repeat' (first | (k_unfold; (try dsimp only)) | (k_end; wrow_close) | ((with_reducible show wpAny _ _ (call (Value.builtin "len") _) _ _ _); k_here; k_dflt (refine kun_lenL (News.isList (by k_asm) (by k_mem)) rfl (by simp only [List.size_toArray, List.length_append, List.length_cons, List.length_nil]; omega) ?_)) | ((with_reducible show wpAny _ _ (call (Value.builtin "list.append") _) _ _ _); k_here; (with_reducible show wpAny _ _ (call (Value.builtin _) [Value.ref _, _]) _ _ _); k_dflt (refine' append_K ?k1 ?k2 ?k3 ?_ ?z; (case k1 => k_asm); (case k2 => k_asm); (case k3 => k_upd); (case z => (rw [sizeLine_eq]; simp only [List.size_toArray]; omega)); k_whole); intro zhq zFq zNq; (try simp only [List.push_toArray] at zNq); (try k_sweep)) | ((with_reducible show wpAny _ _ (subscriptTail _ _ (Value.ref _) _) _ _ _); k_here; (with_reducible show wpAny _ _ (subscriptTail _ _ (Value.ref _) (Value.int _ _)) _ _ _); k_dflt (refine item_led (News.isList (by k_asm) (by k_mem)) (by assumption) (by omega) (by assumption) ?_)) | ((with_reducible show wpAny _ _ (call (Value.ref _) _) _ _ _); k_here; (with_reducible show wpAny _ _ (call (Value.ref 131) _) _ _ _); k_dflt (refine' MC.use2 (row_mc _ ?h1 ?h2 ?h3 ?h0 ?hv ?hlen) ?_; (case h1 => k_mem); (case h2 => k_mem); (case h3 => k_mem); (case h0 => first | assumption | omega); (case hv => assumption); (case hlen => omega); intro zr9 znews9 zh9 ztk9 zF9 zN9 zhR9; obtain ⟨ze9, zel9⟩ := zhR9; subst ze9; subst znews9; (try k_sweep); (try dsimp only); (try k_fold))) | (walk1 <;> (try ((with_reducible show wpAny _ _ (exec _ _) _ _ _); k_fold))) | (dsimp only; walk1) | (leave1; (try dsimp only)))
      rename News _ _ _ _ => N5
      have N6 := News.sub N5 (fun p hp => .tail _ hp)
      rw [← nodesL_mid rp u] at N6
      obtain ⟨b1, b2, b3⟩ := I.set (u' := u) eN ⟨_, _, .mk⟩
      exact hret _ _ _ _ (by k_asm) N6 ⟨vs, ns, _, nr, nn, b1, b2, b3, rfl⟩
    · rename (rp == p) = false => hpp
      refine LPost.next (by k_asm) (by k_asm) _ (fun p hp => hp) hI ⟨.tail _ (.head _), ⟨rfl, ?_⟩, ?_⟩
      · intro r9 hr9
        rw [List.take_add_one, hr, Option.toList_some] at hr9
        rcases List.mem_append.mp hr9 with h9 | h9
        · exact hpre r9 h9
        · rw [List.mem_singleton.mp h9]; exact beq_f hpp
      · intro z h1 h2
        simp only [if_neg h1, h2, Bool.false_eq_true, if_false]
  case done =>
    intro u9 nx h tk hJ hlp F2 N2
    obtain ⟨rfl, hpre⟩ := hJ
    rw [q5, List.take_length] at hpre
    clear F1 N1
    have hrr : ∀ q ∈ (nl, listOf ns.toArray nn) :: (nodesL N ++ rest), q.1 ≠ rl := by
      intro q hq
      rcases List.mem_cons.mp hq with rfl | hq
      · exact q2
      · exact q3 q hq
    repeat' ((fail_if_success (with_reducible show wpAny _ _ (call (Value.ref 124) _) _ _ _)); (first | (k_unfold; (try dsimp only)) | (k_end; wrow_close) | ((with_reducible show wpAny _ _ (call (Value.builtin "len") _) _ _ _); k_here; k_dflt (refine kun_lenL (News.isList (by k_asm) (by k_mem)) rfl (by simp only [List.size_toArray, List.length_append, List.length_cons, List.length_nil]; omega) ?_)) | ((with_reducible show wpAny _ _ (call (Value.builtin "list.append") _) _ _ _); k_here; (with_reducible show wpAny _ _ (call (Value.builtin _) [Value.ref _, _]) _ _ _); k_dflt (refine' append_K ?k1 ?k2 ?k3 ?_ ?z; (case k1 => k_asm); (case k2 => k_asm); (case k3 => k_upd); (case z => (rw [sizeLine_eq]; simp only [List.size_toArray]; omega)); k_whole); intro zhq zFq zNq; (try simp only [List.push_toArray] at zNq); (try k_sweep)) | ((with_reducible show wpAny _ _ (subscriptTail _ _ (Value.ref _) _) _ _ _); k_here; (with_reducible show wpAny _ _ (subscriptTail _ _ (Value.ref _) (Value.int _ _)) _ _ _); k_dflt (refine item_led (News.isList (by k_asm) (by k_mem)) (by assumption) (by omega) (by assumption) ?_)) | ((with_reducible show wpAny _ _ (call (Value.ref _) _) _ _ _); k_here; (with_reducible show wpAny _ _ (call (Value.ref 131) _) _ _ _); k_dflt (refine' MC.use2 (row_mc _ ?h1 ?h2 ?h3 ?h0 ?hv ?hlen) ?_; (case h1 => k_mem); (case h2 => k_mem); (case h3 => k_mem); (case h0 => first | assumption | omega); (case hv => assumption); (case hlen => omega); intro zr9 znews9 zh9 ztk9 zF9 zN9 zhR9; obtain ⟨ze9, zel9⟩ := zhR9; subst ze9; subst znews9; (try k_sweep); (try dsimp only); (try k_fold))) | (walk1 <;> (try ((with_reducible show wpAny _ _ (exec _ _) _ _ _); k_fold))) | (dsimp only; walk1) | (leave1; (try dsimp only))))
    refine' MC.use2 (newrow_mc w (.tail _ g1) (.tail _ g2) hrr hv20) ?_
    intro r9 news9 h9 tk9 F9 N9 hR9
    obtain ⟨k9, t9, x, d, c1, c2, c3, es9, e9, hk9, hes9, hlt9, hdx, _, _, _, el9⟩ := hR9
    subst e9
    subst news9
    have N10 := News.sub N9 subA
    clear N9
    repeat' ((fail_if_success (with_reducible show wpAny _ _ (call (Value.builtin "list.append") _) _ _ _)); (first | (k_unfold; (try dsimp only)) | (k_end; wrow_close) | ((with_reducible show wpAny _ _ (call (Value.builtin "len") _) _ _ _); k_here; k_dflt (refine kun_lenL (News.isList (by k_asm) (by k_mem)) rfl (by simp only [List.size_toArray, List.length_append, List.length_cons, List.length_nil]; omega) ?_)) | ((with_reducible show wpAny _ _ (call (Value.builtin "list.append") _) _ _ _); k_here; (with_reducible show wpAny _ _ (call (Value.builtin _) [Value.ref _, _]) _ _ _); k_dflt (refine' append_K ?k1 ?k2 ?k3 ?_ ?z; (case k1 => k_asm); (case k2 => k_asm); (case k3 => k_upd); (case z => (rw [sizeLine_eq]; simp only [List.size_toArray]; omega)); k_whole); intro zhq zFq zNq; (try simp only [List.push_toArray] at zNq); (try k_sweep)) | ((with_reducible show wpAny _ _ (subscriptTail _ _ (Value.ref _) _) _ _ _); k_here; (with_reducible show wpAny _ _ (subscriptTail _ _ (Value.ref _) (Value.int _ _)) _ _ _); k_dflt (refine item_led (News.isList (by k_asm) (by k_mem)) (by assumption) (by omega) (by assumption) ?_)) | ((with_reducible show wpAny _ _ (call (Value.ref _) _) _ _ _); k_here; (with_reducible show wpAny _ _ (call (Value.ref 131) _) _ _ _); k_dflt (refine' MC.use2 (row_mc _ ?h1 ?h2 ?h3 ?h0 ?hv ?hlen) ?_; (case h1 => k_mem); (case h2 => k_mem); (case h3 => k_mem); (case h0 => first | assumption | omega); (case hv => assumption); (case hlen => omega); intro zr9 znews9 zh9 ztk9 zF9 zN9 zhR9; obtain ⟨ze9, zel9⟩ := zhR9; subst ze9; subst znews9; (try k_sweep); (try dsimp only); (try k_fold))) | (walk1 <;> (try ((with_reducible show wpAny _ _ (exec _ _) _ _ _); k_fold))) | (dsimp only; walk1) | (leave1; (try dsimp only))))
    rename News _ _ _ _ => N10
    have hnd : nl < d := hlt9 (nl, listOf ns.toArray nn) (.tail _ (.head _))
    refine append_L (by assumption) N10 (.head fun q hq => ?_) (Nat.le_trans hn20 (by decide)) fun h6 F6 N6 => ?_
    · rcases List.mem_cons.mp hq with rfl | hq
      · exact q1
      rcases List.mem_cons.mp hq with rfl | hq
      · exact Nat.ne_of_gt (Nat.lt_trans hnd hdx)
      rcases List.mem_cons.mp hq with rfl | hq
      · exact Nat.ne_of_gt hnd
      · exact q4 q hq
    clear N10
    repeat' (first | (k_unfold; (try dsimp only)) | (k_end; wrow_close) | ((with_reducible show wpAny _ _ (call (Value.builtin "len") _) _ _ _); k_here; k_dflt (refine kun_lenL (News.isList (by k_asm) (by k_mem)) rfl (by simp only [List.size_toArray, List.length_append, List.length_cons, List.length_nil]; omega) ?_)) | ((with_reducible show wpAny _ _ (call (Value.builtin "list.append") _) _ _ _); k_here; (with_reducible show wpAny _ _ (call (Value.builtin _) [Value.ref _, _]) _ _ _); k_dflt (refine' append_K ?k1 ?k2 ?k3 ?_ ?z; (case k1 => k_asm); (case k2 => k_asm); (case k3 => k_upd); (case z => (rw [sizeLine_eq]; simp only [List.size_toArray]; omega)); k_whole); intro zhq zFq zNq; (try simp only [List.push_toArray] at zNq); (try k_sweep)) | ((with_reducible show wpAny _ _ (subscriptTail _ _ (Value.ref _) _) _ _ _); k_here; (with_reducible show wpAny _ _ (subscriptTail _ _ (Value.ref _) (Value.int _ _)) _ _ _); k_dflt (refine item_led (News.isList (by k_asm) (by k_mem)) (by assumption) (by omega) (by assumption) ?_)) | ((with_reducible show wpAny _ _ (call (Value.ref _) _) _ _ _); k_here; (with_reducible show wpAny _ _ (call (Value.ref 131) _) _ _ _); k_dflt (refine' MC.use2 (row_mc _ ?h1 ?h2 ?h3 ?h0 ?hv ?hlen) ?_; (case h1 => k_mem); (case h2 => k_mem); (case h3 => k_mem); (case h0 => first | assumption | omega); (case hv => assumption); (case hlen => omega); intro zr9 znews9 zh9 ztk9 zF9 zN9 zhR9; obtain ⟨ze9, zel9⟩ := zhR9; subst ze9; subst znews9; (try k_sweep); (try dsimp only); (try k_fold))) | (walk1 <;> (try ((with_reducible show wpAny _ _ (exec _ _) _ _ _); k_fold))) | (dsimp only; walk1) | (leave1; (try dsimp only)))
    rename News _ _ _ _ => N5
    have N7 := News.sub N5 (subB p u)
    refine hret _ _ _ _ (by k_asm) N7 ?_
    refine ⟨_, _, _, _, _, (?e : TI _ _ _ _ _ _ _ _ _ ∧ _ ∧ _).1, (?e : TI _ _ _ _ _ _ _ _ _ ∧ _ ∧ _).2.1, (?e : TI _ _ _ _ _ _ _ _ _ ∧ _ ∧ _).2.2, rfl⟩
    exact I.add ⟨_, _, hes9.es⟩ ⟨hlt9 _ (.head _), hnd, allLt_of fun q hq => hlt9 q (.tail _ (.tail _ hq))⟩ hdx hpre (by omega)
end
section
theorem off_XZ : True := by
  w_top off
  trivial
open PySem.Calls

def dstep (c : Prs) (q : Str × Str) : Prs := if q.2 ≠ Str.ofString "" then put c q.1 q.2 else del c q.1



theorem dstep_1 {c : Prs} {p u : Str} (h : (u != Str.ofString "") = true) : dstep c (p, u) = put c p u := by unfold dstep; rw [if_pos (bne_t h)]
theorem dstep_2 {c : Prs} {p u : Str} (h : (u != Str.ofString "") = false) : dstep c (p, u) = del c p := by unfold dstep; rw [if_neg (fun z => z (bne_f h))]
theorem lk_none {c : Prs} {p : Str} (h : (lk c p).isSome = false) : ∀ q ∈ c, q.1 ≠ p := by
  intro q hq e
  obtain ⟨v, hv, _⟩ := lk_of_mem (c := c) (k := p) (List.mem_map.mpr ⟨q, hq, e⟩)
  rw [hv] at h
  exact absurd h (by simp)
theorem dstep_3 {c : Prs} {p u : Str} (h : (u != Str.ofString "") = false) (h2 : (lk c p).isSome = false) : dstep c (p, u) = c := by
  rw [dstep_2 h]
  unfold del
  rw [List.filter_eq_self]
  intro q hq
  exact decide_eq_true (lk_none h2 q hq)
theorem del_len (c : Prs) (p : Str) : (del c p).length ≤ c.length := List.length_filter_le _ _
theorem off2 {I D fd : Addr} {od o : Obj} {l : Led} (h : ∀ p ∈ (D, od) :: (fd, o) :: l, p.1 ≠ I) (o' : Obj) : ∀ p ∈ (D, od) :: (fd, o') :: l, p.1 ≠ I := by
  intro p hp
  rcases List.mem_cons.mp hp with rfl | hp
  · exact h _ (.head _)
  · rcases List.mem_cons.mp hp with rfl | hp
    · exact h (fd, o) (.tail _ (.head _))
    · exact h _ (.tail _ (.tail _ hp))
theorem nm_new2 {P : Prop} {h₀ h : Heap} {L d1 d2 : Addr} {o2 : Obj} {vs : Array Value} {n : Nat} {l : Led} (N : News h₀ L h ((d1, listOf vs n) :: (d2, o2) :: l)) (k : ∀ a b c e, a = d1 → b = n → c = d2 → e = o2 → P) : P := k d1 n d2 o2 rfl rfl rfl rfl

theorem swithin_mc (w : World) {tr rl el nl sd : Addr} {so : Obj} {cs : Prs} {nr nn : Nat} {vs ns : List Value} {N : List NR} {rest : Led} {t1 : Tok} (I : TI w tr rl el nl vs ns N rest) (hlen : N.length ≤ 5)
    (hs : (sd, so) ∈ rest) (Ts : TT w sd so cs) (hl : cs.length ≤ 5) :
    MC w 4 40 49 [.ref tr, .int 1 t1, .ref sd] ((rl, listOf vs.toArray nr) :: (nl, listOf ns.toArray nn) :: (nodesL N ++ rest))
      (fun r news' => ∃ fd fo, r = .ref fd ∧ TT w fd fo ((pairs N).foldl dstep cs) ∧ news' = (fd, fo) :: (rl, listOf vs.toArray nr) :: (nl, listOf ns.toArray nn) :: (nodesL N ++ rest)) := by
  have : (fun (_ : OpenLaw) (_ : Params → Frag) => True) PySem.Challenge.rw_xm0663_01 hd.heap_39 := by (k_fill; trivial)
  unfold MC
  intro mean mg mb dp un gd cn cs' a ccd cl outer A₀ base h₀ L m s Q E B F X Nw T hk hdp hun hret
  obtain ⟨td, kt, nt, htr, htd⟩ := I.td
  obtain ⟨ed, es, ne, te, pe, ue, hel, hed, hes⟩ := I.ed
  obtain ⟨rt, hvs⟩ := I.vs
  have g1 := List.mem_append_right (nodesL N) htr
  have g2 := List.mem_append_right (nodesL N) htd
  have g3 := List.mem_append_right (nodesL N) hel
  have g4 := List.mem_append_right (nodesL N) hed
  have g7 := List.mem_append_right (nodesL N) hs
  have hv1 : vs[(1 : Int).toNat]? = some (.ref el) := by rw [hvs]; rfl
  have hvl : vs.length = N.length + 2 := by rw [hvs]; simp
  have q5 := I.nsl
  cases hes
  refine wpAny_call ?_
  k_dflt cell_enter
  repeat' ((fail_if_success (with_reducible show wpAny _ _ (pyIter (Value.ref _)) _ _ _)); (first | (k_unfold; (try dsimp only)) | (k_end; wrow_close) | ((with_reducible show wpAny _ _ (call (Value.builtin "dict.pop") _) _ _ _); k_here; k_dflt (obtain ⟨zv9, zhv9⟩ := Option.isSome_iff_exists.mp (by assumption : (lk _ _).isSome = true); refine tt_pop (by k_asm) (by k_asm) (by k_updF) (by assumption) (by omega) zhv9 ?_); intro zhq zoq ztq zFq zNq zhTq; (try dsimp only at zNq)) | ((with_reducible show wpAny _ _ (setItem (Value.ref _) (Value.str _ _) _) _ _ _); k_here; k_dflt (refine tt_set (by k_asm) (by k_asm) (by k_updF) (by assumption) (by omega) ?_); intro zhq zoq zFq zNq zhTq; (try dsimp only at zNq)) | ((with_reducible show wpAny _ _ (getMethod (Value.ref _) _ _) _ _ _); k_here; (with_reducible show wpAny _ _ (getMethod (Value.ref _) (Str.ofString "pop") _) _ _ _); k_dflt (refine tt_methPop (by k_asm) (by k_mem) (by assumption) ?_)) | ((with_reducible show wpAny _ _ (compareOp CmpOp.In (Value.str _ _) (Value.ref _)) _ _ _); k_here; k_dflt (refine tt_in (by k_asm) (by k_mem) (by assumption) ?_)) | ((with_reducible show wpAny _ _ (call (Value.ref _) _) _ _ _); k_here; (with_reducible show wpAny _ _ (call (Value.ref 236) _) _ _ _); k_dflt (refine' MC.use2 (value_mc _ ?h1 ?h2 ?h3 ?h0 ?hv ?hlen ?h4 ?h5 ?hn) ?_; (case h1 => k_mem); (case h2 => k_mem); (case h3 => k_mem); (case h0 => first | assumption | omega); (case hv => assumption); (case hlen => omega); (case h4 => k_mem); (case h5 => k_mem); (case hn => assumption); intro zr9 znews9 zh9 ztk9 zF9 zN9 zhR9; obtain ⟨zt9, ze9, zel9⟩ := zhR9; subst ze9; subst znews9; (try k_sweep); (try dsimp only); (try k_fold))) | ((with_reducible show wpAny _ _ (call (Value.ref _) _) _ _ _); k_here; (with_reducible show wpAny _ _ (call (Value.ref 215) _) _ _ _); k_dflt (refine' MC.use2 (name_mc _ ?h1 ?h2 ?h3 ?h0 ?hv ?hlen ?h4 ?h5 ?hn) ?_; (case h1 => k_mem); (case h2 => k_mem); (case h3 => k_mem); (case h0 => first | assumption | omega); (case hv => assumption); (case hlen => omega); (case h4 => k_mem); (case h5 => k_mem); (case hn => assumption); intro zr9 znews9 zh9 ztk9 zF9 zN9 zhR9; obtain ⟨zt9, ze9, zel9⟩ := zhR9; subst ze9; subst znews9; (try k_sweep); (try dsimp only); (try k_fold))) | ((with_reducible show wpAny _ _ (call (Value.type _) _) _ _ _); k_here; (with_reducible show wpAny _ _ (call (Value.type "dict") [Value.ref _]) _ _ _); k_dflt (refine tt_dict (by k_asm) (by k_asm) (Top.nolimit (by k_asm)) (by k_mem) (by assumption) (by omega) ?_); intro zxq zhq zoq zFq zNq zl1 zT1; (try k_lt zl1)) | ((with_reducible show wpAny _ _ (call (Value.ref _) _) _ _ _); k_here; (with_reducible show wpAny _ _ (call (Value.ref 131) _) _ _ _); k_dflt (refine' MC.use2 (row_mc _ ?h1 ?h2 ?h3 ?h0 ?hv ?hlen) ?_; (case h1 => k_mem); (case h2 => k_mem); (case h3 => k_mem); (case h0 => first | assumption | omega); (case hv => assumption); (case hlen => omega); intro zr9 znews9 zh9 ztk9 zF9 zN9 zhR9; obtain ⟨ze9, zel9⟩ := zhR9; subst ze9; subst znews9; (try k_sweep); (try dsimp only); (try k_fold))) | (walk1 <;> (try ((with_reducible show wpAny _ _ (exec _ _) _ _ _); k_fold))) | (dsimp only; walk1) | (leave1; (try dsimp only))))
  rename Fr _ _ _ _ => F1
  rename News _ _ _ _ => N1
  refine nm_new2 N1 fun D e fd fo0 z1 z2 z3 z4 => ?_
  subst z1; subst z2; subst z3; subst z4
  rename TT w fd fo0 cs => T0
  rename rl < fd ∧ _ => l1
  rename fd < D ∧ _ => l2
  have l3 := lt_allLt l1.2.2
  have l4 : ∀ p ∈ nodesL N ++ rest, p.1 ≠ fd := fun p hp => Nat.ne_of_lt (l3 p hp)
  have l5 : ∀ p ∈ (rl, listOf vs.toArray nr) :: (nl, listOf ns.toArray nn) :: (nodesL N ++ rest), p.1 < fd := by
    intro p hp
    rcases List.mem_cons.mp hp with rfl | hp
    · exact l1.1
    · rcases List.mem_cons.mp hp with rfl | hp
      · exact l1.2.1
      · exact l3 p hp
  have hpl : (pairs N).length = N.length := by unfold pairs; simp
  refine list_inv (ax := D) (nn := e) (vs := ns) [Str.ofString "prefix", Str.ofString "uri"] (fun i u nx => ∃ fo c, TT w fd fo c ∧ c = ((pairs N).take i).foldl dstep cs ∧ c.length ≤ 5 + i ∧ nx = (D, listOf ns.toArray e) :: (fd, fo) :: (rl, listOf vs.toArray nr) :: (nl, listOf ns.toArray nn) :: (nodesL N ++ rest)) (by rfl) F1 N1 (.head _) ⟨_, _, T0, rfl, by omega, rfl⟩ ?turn ?done
  case turn =>
    intro I9 i v u9 h tk nx it hv hJ hI hlp hc F2 N2
    obtain ⟨fo, c, hT, hcc, hcl, rfl⟩ := hJ
    obtain ⟨t9, rfl⟩ := I.nsv i v hv
    have hi : i < N.length := by have := (List.getElem?_eq_some_iff.mp hv).1; rw [I.nsl] at this; exact this
    obtain ⟨r, hr⟩ : ∃ r, N[i]? = some r := ⟨N[i], by simp [hi]⟩
    have hv2 : vs[((i : Int) + 2).toNat]? = some (.ref r.x) := by
      rw [hvs, show ((i : Int) + 2).toNat = i + 2 by omega]
      simp [hr]
    have hrm := List.mem_of_getElem? hr
    have g5 := List.mem_append_left rest (nodesL_in hrm).1
    have g6 := List.mem_append_left rest (nodesL_in hrm).2
    have n1 : I9 ≠ fd := fun z => hI _ (.tail _ (.head _)) z.symm
    have h02 : (0 : Int) ≤ (i : Int) + 2 := by omega
    obtain ⟨vk, vns, hnode⟩ := I.ok r hrm
    have hstep : ((pairs N).take (i + 1)).foldl dstep cs = dstep c (r.p, r.u) := by
      have : (pairs N)[i]? = some (r.p, r.u) := by unfold pairs; simp [hr]
      rw [List.take_add_one, this, Option.toList_some, List.foldl_append, ← hcc]; rfl
    clear F1 N1 T0
    repeat' (first | (k_unfold; (try dsimp only)) | (k_end; wrow_close) | ((with_reducible show wpAny _ _ (call (Value.builtin "dict.pop") _) _ _ _); k_here; k_dflt (obtain ⟨zv9, zhv9⟩ := Option.isSome_iff_exists.mp (by assumption : (lk _ _).isSome = true); refine tt_pop (by k_asm) (by k_asm) (by k_updF) (by assumption) (by omega) zhv9 ?_); intro zhq zoq ztq zFq zNq zhTq; (try dsimp only at zNq)) | ((with_reducible show wpAny _ _ (setItem (Value.ref _) (Value.str _ _) _) _ _ _); k_here; k_dflt (refine tt_set (by k_asm) (by k_asm) (by k_updF) (by assumption) (by omega) ?_); intro zhq zoq zFq zNq zhTq; (try dsimp only at zNq)) | ((with_reducible show wpAny _ _ (getMethod (Value.ref _) _ _) _ _ _); k_here; (with_reducible show wpAny _ _ (getMethod (Value.ref _) (Str.ofString "pop") _) _ _ _); k_dflt (refine tt_methPop (by k_asm) (by k_mem) (by assumption) ?_)) | ((with_reducible show wpAny _ _ (compareOp CmpOp.In (Value.str _ _) (Value.ref _)) _ _ _); k_here; k_dflt (refine tt_in (by k_asm) (by k_mem) (by assumption) ?_)) | ((with_reducible show wpAny _ _ (call (Value.ref _) _) _ _ _); k_here; (with_reducible show wpAny _ _ (call (Value.ref 236) _) _ _ _); k_dflt (refine' MC.use2 (value_mc _ ?h1 ?h2 ?h3 ?h0 ?hv ?hlen ?h4 ?h5 ?hn) ?_; (case h1 => k_mem); (case h2 => k_mem); (case h3 => k_mem); (case h0 => first | assumption | omega); (case hv => assumption); (case hlen => omega); (case h4 => k_mem); (case h5 => k_mem); (case hn => assumption); intro zr9 znews9 zh9 ztk9 zF9 zN9 zhR9; obtain ⟨zt9, ze9, zel9⟩ := zhR9; subst ze9; subst znews9; (try k_sweep); (try dsimp only); (try k_fold))) | ((with_reducible show wpAny _ _ (call (Value.ref _) _) _ _ _); k_here; (with_reducible show wpAny _ _ (call (Value.ref 215) _) _ _ _); k_dflt (refine' MC.use2 (name_mc _ ?h1 ?h2 ?h3 ?h0 ?hv ?hlen ?h4 ?h5 ?hn) ?_; (case h1 => k_mem); (case h2 => k_mem); (case h3 => k_mem); (case h0 => first | assumption | omega); (case hv => assumption); (case hlen => omega); (case h4 => k_mem); (case h5 => k_mem); (case hn => assumption); intro zr9 znews9 zh9 ztk9 zF9 zN9 zhR9; obtain ⟨zt9, ze9, zel9⟩ := zhR9; subst ze9; subst znews9; (try k_sweep); (try dsimp only); (try k_fold))) | ((with_reducible show wpAny _ _ (call (Value.type _) _) _ _ _); k_here; (with_reducible show wpAny _ _ (call (Value.type "dict") [Value.ref _]) _ _ _); k_dflt (refine tt_dict (by k_asm) (by k_asm) (Top.nolimit (by k_asm)) (by k_mem) (by assumption) (by omega) ?_); intro zxq zhq zoq zFq zNq zl1 zT1; (try k_lt zl1)) | ((with_reducible show wpAny _ _ (call (Value.ref _) _) _ _ _); k_here; (with_reducible show wpAny _ _ (call (Value.ref 131) _) _ _ _); k_dflt (refine' MC.use2 (row_mc _ ?h1 ?h2 ?h3 ?h0 ?hv ?hlen) ?_; (case h1 => k_mem); (case h2 => k_mem); (case h3 => k_mem); (case h0 => first | assumption | omega); (case hv => assumption); (case hlen => omega); intro zr9 znews9 zh9 ztk9 zF9 zN9 zhR9; obtain ⟨ze9, zel9⟩ := zhR9; subst ze9; subst znews9; (try k_sweep); (try dsimp only); (try k_fold))) | (walk1 <;> (try ((with_reducible show wpAny _ _ (exec _ _) _ _ _); k_fold))) | (dsimp only; walk1) | (leave1; (try dsimp only)))
    all_goals first
      | refine LPost.next (by k_asm) (by k_asm) ((D, listOf ns.toArray e) :: (fd, _) :: (rl, listOf vs.toArray nr) :: (nl, listOf ns.toArray nn) :: (nodesL N ++ rest)) (fun p hp => by first | exact hp | exact .tail _ hp | exact .tail _ (.tail _ hp)) (off2 hI _) ⟨.head _, ⟨_, put c r.p r.u, by assumption, (hstep.trans (dstep_1 (by assumption))).symm, by have := put_len c r.p r.u; omega, rfl⟩, fun z h1 h2 => ?_⟩
      | refine LPost.next (by k_asm) (by k_asm) ((D, listOf ns.toArray e) :: (fd, _) :: (rl, listOf vs.toArray nr) :: (nl, listOf ns.toArray nn) :: (nodesL N ++ rest)) (fun p hp => by first | exact hp | exact .tail _ hp | exact .tail _ (.tail _ hp)) (off2 hI _) ⟨.head _, ⟨_, del c r.p, by assumption, (hstep.trans (dstep_2 (by assumption))).symm, by have := del_len c r.p; omega, rfl⟩, fun z h1 h2 => ?_⟩
      | refine LPost.next (by k_asm) (by k_asm) ((D, listOf ns.toArray e) :: (fd, _) :: (rl, listOf vs.toArray nr) :: (nl, listOf ns.toArray nn) :: (nodesL N ++ rest)) (fun p hp => by first | exact hp | exact .tail _ hp | exact .tail _ (.tail _ hp)) (off2 hI _) ⟨.head _, ⟨_, c, by assumption, (hstep.trans (dstep_3 (by assumption) (by assumption))).symm, by omega, rfl⟩, fun z h1 h2 => ?_⟩
    all_goals (
      obtain ⟨h3, h4⟩ := contains_f h2
      obtain ⟨h5, _⟩ := contains_f h4
      simp only [if_neg h1, if_neg h3, if_neg h5, h2, Bool.false_eq_true, if_false])
  case done =>
    intro u9 nx h tk hJ hlp F2 N2
    obtain ⟨fo, c, hT, hcc, hcl, rfl⟩ := hJ
    clear F1 N1 T0
    rw [q5, ← hpl, List.take_length] at hcc
    subst hcc
    repeat' (first | (k_unfold; (try dsimp only)) | (k_end; wrow_close) | ((with_reducible show wpAny _ _ (call (Value.builtin "dict.pop") _) _ _ _); k_here; k_dflt (obtain ⟨zv9, zhv9⟩ := Option.isSome_iff_exists.mp (by assumption : (lk _ _).isSome = true); refine tt_pop (by k_asm) (by k_asm) (by k_updF) (by assumption) (by omega) zhv9 ?_); intro zhq zoq ztq zFq zNq zhTq; (try dsimp only at zNq)) | ((with_reducible show wpAny _ _ (setItem (Value.ref _) (Value.str _ _) _) _ _ _); k_here; k_dflt (refine tt_set (by k_asm) (by k_asm) (by k_updF) (by assumption) (by omega) ?_); intro zhq zoq zFq zNq zhTq; (try dsimp only at zNq)) | ((with_reducible show wpAny _ _ (getMethod (Value.ref _) _ _) _ _ _); k_here; (with_reducible show wpAny _ _ (getMethod (Value.ref _) (Str.ofString "pop") _) _ _ _); k_dflt (refine tt_methPop (by k_asm) (by k_mem) (by assumption) ?_)) | ((with_reducible show wpAny _ _ (compareOp CmpOp.In (Value.str _ _) (Value.ref _)) _ _ _); k_here; k_dflt (refine tt_in (by k_asm) (by k_mem) (by assumption) ?_)) | ((with_reducible show wpAny _ _ (call (Value.ref _) _) _ _ _); k_here; (with_reducible show wpAny _ _ (call (Value.ref 236) _) _ _ _); k_dflt (refine' MC.use2 (value_mc _ ?h1 ?h2 ?h3 ?h0 ?hv ?hlen ?h4 ?h5 ?hn) ?_; (case h1 => k_mem); (case h2 => k_mem); (case h3 => k_mem); (case h0 => first | assumption | omega); (case hv => assumption); (case hlen => omega); (case h4 => k_mem); (case h5 => k_mem); (case hn => assumption); intro zr9 znews9 zh9 ztk9 zF9 zN9 zhR9; obtain ⟨zt9, ze9, zel9⟩ := zhR9; subst ze9; subst znews9; (try k_sweep); (try dsimp only); (try k_fold))) | ((with_reducible show wpAny _ _ (call (Value.ref _) _) _ _ _); k_here; (with_reducible show wpAny _ _ (call (Value.ref 215) _) _ _ _); k_dflt (refine' MC.use2 (name_mc _ ?h1 ?h2 ?h3 ?h0 ?hv ?hlen ?h4 ?h5 ?hn) ?_; (case h1 => k_mem); (case h2 => k_mem); (case h3 => k_mem); (case h0 => first | assumption | omega); (case hv => assumption); (case hlen => omega); (case h4 => k_mem); (case h5 => k_mem); (case hn => assumption); intro zr9 znews9 zh9 ztk9 zF9 zN9 zhR9; obtain ⟨zt9, ze9, zel9⟩ := zhR9; subst ze9; subst znews9; (try k_sweep); (try dsimp only); (try k_fold))) | ((with_reducible show wpAny _ _ (call (Value.type _) _) _ _ _); k_here; (with_reducible show wpAny _ _ (call (Value.type "dict") [Value.ref _]) _ _ _); k_dflt (refine tt_dict (by k_asm) (by k_asm) (Top.nolimit (by k_asm)) (by k_mem) (by assumption) (by omega) ?_); intro zxq zhq zoq zFq zNq zl1 zT1; (try k_lt zl1)) | ((with_reducible show wpAny _ _ (call (Value.ref _) _) _ _ _); k_here; (with_reducible show wpAny _ _ (call (Value.ref 131) _) _ _ _); k_dflt (refine' MC.use2 (row_mc _ ?h1 ?h2 ?h3 ?h0 ?hv ?hlen) ?_; (case h1 => k_mem); (case h2 => k_mem); (case h3 => k_mem); (case h0 => first | assumption | omega); (case hv => assumption); (case hlen => omega); intro zr9 znews9 zh9 ztk9 zF9 zN9 zhR9; obtain ⟨ze9, zel9⟩ := zhR9; subst ze9; subst znews9; (try k_sweep); (try dsimp only); (try k_fold))) | (walk1 <;> (try ((with_reducible show wpAny _ _ (exec _ _) _ _ _); k_fold))) | (dsimp only; walk1) | (leave1; (try dsimp only)))
    exact hret _ _ _ _ (by k_asm) (News.sub (by k_asm) (fun p hp => .tail _ hp)) ⟨fd, _, rfl, hT, rfl⟩
end
section
open PyProof.Rows.LCg
open PySem.Calls PySem.Spec

def sel (pr : Str) (c : Prs) : List Str := (c.filter fun q => q.1 == pr).map (·.2)
theorem strs_app {a b : List Value} {x y : List Str} (h : StrsAre a x) (k : StrsAre b y) : StrsAre (a ++ b) (x ++ y) := by
  induction h with
  | nil => exact k
  | cons x t _ ih => exact .cons x t ih
/-- all but three addresses stays -/
def Kp3 (I C D : Addr) (h h' : Heap) : Prop := ∀ b o, b ≠ I → b ≠ C → b ≠ D → h.get? b = some o → h'.get? b = some o

theorem comp_loop {w : World} {A : Around} {s : Shared} {cenv : Env} {x x₂ : Str} {px px₂ pe tp : Pos} {k0 : Nat} {ct iter : PySem.Expr} {scope : Scope} {pos : Pos} {I D ax : Addr} {vs : List Value} {c : Prs} {pr : Str} {m : Str → Option Value} {R : Result → Shared → Prop}
    (hh : A.handled = none) (hk : cenv.scope.kind = .function) (hx : cenv.kindOf x = some .local) (hx₂ : cenv.kindOf x₂ = some .local) (hxx : x ≠ x₂) (hd : (x₂ == ("__debug__" : Str)) = false)
    (hp : (cenv.scope.kind == .class || (cenv.scope.kind == .module && cenv.locals != cenv.globals)) = false)
    (hDC : D ≠ cenv.locals) (hID : I ≠ D) (hIC : I ≠ cenv.locals) (a1 : ax ≠ I) (a2 : ax ≠ cenv.locals) (a3 : ax ≠ D)
    (hst : s.heap.IsListIter I ax 0) (hl : s.heap.IsList ax vs.toArray) (hacc : s.heap.get? D = some (lst [])) (hn : s.heap.Ns cenv.locals m)
    (hit : ∀ (i : Nat) v, vs[i]? = some v → ∃ t p u tp tu, v = .ref t ∧ c[i]? = some (p, u) ∧ t ≠ I ∧ t ≠ cenv.locals ∧ t ≠ D ∧ IsTup s.heap t #[.str p tp, .str u tu])
    (hlen : vs.length = c.length) (hsz : vs.length ≤ sizeLine)
    (htest : ∀ h' tk m' p u tp tu (E' : Value → Shared → Prop), Kp3 I cenv.locals D s.heap h' → h'.Ns cenv.locals m' → m' x = some (.str p tp) → m' x₂ = some (.str u tu) →
      wpAny (model PR w) A (isTrue ct cenv (eval ct cenv)) (fun ok s'' => ok = (p == pr) ∧ ∃ tk', s'' = { s with heap := h', toks := tk' }) E' { s with heap := h', toks := tk })
    (hR : ∀ h' tk m' ys, h'.Ns cenv.locals m' → h'.get? D = some (lst ys) → StrsAre ys (sel pr c) → Kp3 I cenv.locals D s.heap h' → R (.ok .next) { s with heap := h', toks := tk }) :
    codeAny (model PR w) A (.compLoop (.ListComp (.Name x₂ pe) [⟨.Tuple [.Name x px, .Name x₂ px₂] k0 tp, iter, [ct], 0⟩] scope pos) 0 (.ref I) (.ref D) cenv) R s := by
  have W : Walks PR w A I [I, ax] [I] vs.toArray.size _ _ := Walks.list hh I ax a1 vs.toArray
  refine kct_loop (fun k s' => ∃ h' tk i ys m', s' = { s with heap := h', toks := tk } ∧ i ≤ vs.length ∧ k = vs.length + 1 - i ∧ ys.length ≤ i ∧ StrsAre ys (sel pr (c.take i)) ∧
    (h'.IsListIter I ax i ∧ h'.IsList ax vs.toArray) ∧ h'.get? D = some (lst ys) ∧ h'.Ns cenv.locals m' ∧ Kp3 I cenv.locals D s.heap h') ?_ (vs.length + 1) ⟨s.heap, s.toks, 0, [], m, rfl, Nat.zero_le _, rfl, Nat.le_refl _, .nil, ⟨hst, hl⟩, hacc, hn, fun _ _ _ _ _ e => e⟩
  rintro k s' ⟨h', tk, i, ys, m', rfl, hi, rfl, hyl, hys, hS, hD, hN, hK⟩
  by_cases hlt : i < vs.length
  · refine W.item i _ _ _ (by simpa using hlt) hS fun v h₂ tk₂ hv hS₂ hk₂ => ?_
    obtain ⟨t, p, u, tp', tu, rfl, hc, t1, t2, t3, ht⟩ := hit i v (by simpa using hv)
    have up₂ : Kp3 I cenv.locals D s.heap h₂ := fun b o q1 q2 q3 e => hk₂ b o (by simpa using q1) (hK b o q1 q2 q3 e)
    have hD₂ : h₂.get? D = some (lst ys) := hk₂ D _ (by simpa using Ne.symm hID) hD
    have hN₂ : h₂.Ns cenv.locals m' := hN.at' fun o e => hk₂ _ o (by simpa using Ne.symm hIC) e
    have ht₂ : IsTup h₂ t #[.str p tp', .str u tu] := by
      obtain ⟨o, ho, r⟩ := ht
      exact ⟨o, up₂ _ _ t1 t2 t3 ho, r⟩
    refine wpAny_letOwnedTupleGo_listiter hS₂.1 ?_
    refine assign_Tuple_tuple hh ht₂ rfl rfl fun h₅ he => ?_
    have he' : ∀ b o, h₂.get? b = some o → h₅.get? b = some o := fun b o e => he b o (Nat.ne_of_lt (Heap.lt_size e)) e
    refine assignInOrder_cons (wpAny_assign_Name (wpAny_storeName_local hx (hN₂.at' fun o e => he' _ o e) (fun h₆ hn₆ hs₆ => ?_) hp))
    refine assignInOrder_cons (wpAny_assign_Name (wpAny_storeName_local hx₂ hn₆ (fun h₃ hn₃ hs₃ => ?_) hp))
    refine assignInOrder_nil ?_
    have old3 : ∀ b o, b ≠ cenv.locals → h₂.get? b = some o → h₃.get? b = some o := fun b o hb e => hs₃.extBut b o hb (hs₆.extBut b o hb (he' b o e))
    have up₃ : Kp3 I cenv.locals D s.heap h₃ := fun b o q1 q2 q3 e => old3 b o q2 (up₂ b o q1 q2 q3 e)
    have hD₃ := old3 _ _ hDC hD₂
    have hS₃ : h₃.IsListIter I ax (i + 1) ∧ h₃.IsList ax vs.toArray := W.frame _ _ _ hS₂ fun b hb o e => old3 b o (by
      rcases List.mem_cons.mp hb with rfl | hb
      · exact hIC
      · rw [List.mem_singleton.mp hb]; exact a2) e
    refine wpAny_mono (htest h₃ _ _ p u tp' tu _ up₃ hn₃ (by simp [hxx]) (by simp)) (fun ok s₄ h₄ => ?_) fun _ _ e => e
    obtain ⟨rfl, tk₄, rfl⟩ := h₄
    have htake : c.take (i + 1) = c.take i ++ [(p, u)] := by rw [List.take_add_one, hc, Option.toList_some]
    cases hpp : p == pr with
    | true =>
      simp only [if_true]
      refine wpAny_Name (wpAny_loadName_local (v := .str u tu) hk hx₂ hn₃ (by simp) ?_) hd
      refine append_at (hsz := by show ys.toArray.size ≤ sizeLine; rw [List.size_toArray]; exact Nat.le_trans (Nat.le_trans hyl hi) hsz) hD₃ fun h₇ hs₇ hD₇ => ?_
      refine ⟨vs.length + 1 - (i + 1), by omega, h₇, tk₄, i + 1, ys ++ [.str u tu], _, rfl, hlt, rfl, by rw [List.length_append, List.length_singleton]; exact Nat.succ_le_succ hyl, ?_, ?_, hD₇.trans (congrArg some (lst_snoc ys _)), hn₃.sameBut hs₇ (Ne.symm hDC), fun b o q1 q2 q3 e => hs₇.extBut b o q3 (up₃ b o q1 q2 q3 e)⟩
      · have : sel pr (c.take (i + 1)) = sel pr (c.take i) ++ [u] := by rw [htake]; simp [sel, hpp]
        rw [this]
        exact strs_app hys (.cons _ _ .nil)
      · exact W.frame _ _ _ hS₃ fun b hb o e => hs₇.extBut b o (by
          rcases List.mem_cons.mp hb with rfl | hb
          · exact hID
          · rw [List.mem_singleton.mp hb]; exact a3) e
    | false =>
      simp only [Bool.false_eq_true, if_false]
      refine ⟨vs.length + 1 - (i + 1), by omega, h₃, tk₄, i + 1, ys, _, rfl, hlt, rfl, Nat.le_succ_of_le hyl, ?_, hS₃, hD₃, hn₃, up₃⟩
      have : sel pr (c.take (i + 1)) = sel pr (c.take i) := by rw [htake]; simp [sel, hpp]
      rw [this]; exact hys
  · obtain rfl : i = vs.length := Nat.le_antisymm hi (Nat.not_lt.mp hlt)
    refine W.done _ _ _ (by simpa using hS) fun h₂ tk₂ hk₂ => ?_
    refine hR h₂ tk₂ m' ys (hN.at' fun o e => hk₂ _ o (by simpa using Ne.symm hIC) e) (hk₂ D _ (by simpa using Ne.symm hID) hD) ?_ fun b o q1 q2 q3 e => hk₂ b o (by simpa using q1) (hK b o q1 q2 q3 e)
    rw [hlen, List.take_length] at hys; exact hys
end
section
open PyProof.Rows.LCg
open PySem.Calls PySem.Spec

theorem comp_assign {w : World} {A : Around} {E : Value → Shared → Prop} {s : Shared} {env : Env} {h₀ : Heap} {L ax : Addr} {m : Str → Option Value} {news : Led} {x x₂ y : Str} {px px₂ pe tp py : Pos} {k0 : Nat} {ct iter : PySem.Expr} {scope : Scope} {cl : List (Str × Addr)} {pos spos : Pos} {vs : List Value} {kk : Nat} {c : Prs} {pr : Str} {Q : Flow → Shared → Prop}
    (hh : A.handled = none) (F : Fr h₀ L s.heap m) (N : News h₀ L s.heap news) (hLe : env.locals = L) (hm : (ax, listOf vs.toArray kk) ∈ news) (hP : PairsAt news vs c) (hsz : vs.length ≤ sizeLine)
    (hsw : swapsWith (.ListComp (.Name x₂ pe) [⟨.Tuple [.Name x px, .Name x₂ px₂] k0 tp, iter, [ct], 0⟩] scope pos) (some (.Name y py)) spos.line env = pure true)
    (hclos : closureFor scope env = pure cl) (hcell : ∀ z ∈ scope.names, z.2 ≠ .cell) (hkind : scope.kind = .function)
    (hnames : ∀ z ∈ scope.names, z.2 = .local → scope.names.lookup z.1 = some .local) (hx : scope.names.lookup x = some .local) (hx₂ : scope.names.lookup x₂ = some .local) (hxx : x ≠ x₂) (hd : (x₂ == ("__debug__" : Str)) = false)
    (hy : env.kindOf y = some .local) (hp : (env.scope.kind == .class || (env.scope.kind == .module && env.locals != env.globals)) = false)
    (hi : wpAny (model PR w) A (eval iter env) (fun xv s₁ => xv = .ref ax ∧ s₁ = s) E s)
    (htest : ∀ C oC h' tk m' p u tp tu (E' : Value → Shared → Prop), NsObj oC m' → m' x = some (.str p tp) → m' x₂ = some (.str u tu) → Fr h₀ L h' m → News h₀ L h' ((C, oC) :: news) →
      wpAny (model PR w) A (isTrue ct (compEnvC scope cl C env) (eval ct (compEnvC scope cl C env))) (fun ok s'' => ok = (p == pr) ∧ ∃ tk', s'' = { s with heap := h', toks := tk' }) E' { s with heap := h', toks := tk })
    (hdone : ∀ D h' tk ys, Fr h₀ L h' (fun z => if z = y then some (.ref D) else m z) → News h₀ L h' ((D, lst ys) :: news) → (∀ p ∈ news, p.1 < D) → StrsAre ys (sel pr c) → Q .next { s with heap := h', toks := tk })
    (hfs : ∀ x, foldedSetIterable iter env x = pure x := by intro _; rfl) :
    wpAny (model PR w) A (exec (.Assign [.Name y py] (.ListComp (.Name x₂ pe) [⟨.Tuple [.Name x px, .Name x₂ px₂] k0 tp, iter, [ct], 0⟩] scope pos) spos) env) Q E s := by
  subst hLe
  rw [exec_Assign_Name_used _ _ _ _ hsw]
  refine wpAny_bind (wpAny_standAt (wpAny_bind ?_))
  show wpAny _ A (do let _ ← comprehension (.ListComp (.Name x₂ pe) [⟨.Tuple [.Name x px, .Name x₂ px₂] k0 tp, iter, [ct], 0⟩] scope pos) scope env _ (newList []) false (eval iter env) (some (assign (.Name y py) env))) _ _ s
  refine wpAny_bind (wpAny_mono (wpAny_comprehension_free (use := some (assign (.Name y py) env)) (Q := fun _ s' => Q .next s') rfl hfs hclos hkind hnames
    (wpAny_mono hi (fun xv s₁ h₁ => ?_) fun _ _ e => e)) (fun _ s' hq => wpAny_pure (wpAny_pure hq)) fun _ _ e => e)
  obtain ⟨rfl, rfl⟩ := h₁
  have hl := News.isList N hm
  have hlt := ltN (Heap.lt_size (N _ hm).1)
  dsimp only at hlt
  have nlt : ∀ p ∈ news, p.1 < s₁.heap.objs.size := fun p hp => Heap.lt_size (N p hp).1
  refine wpAny_pyIter_list hl ?_
  refine wpAny_newObj_type (wpAny_newFunctionEnv hcell (by intro y hy; simp at hy) (fun h₁ hns₁ hsb₁ => ?_) hkind)
  dsimp only at hns₁ hsb₁ ⊢
  generalize hH1 : s₁.heap.push { cls := .type "list_iterator", data := .fields #[.ref ax, .int 0 0] } = H1 at hns₁ hsb₁ ⊢
  generalize hH2 : H1.push { cls := .type "list", dict := none, data := .seq ([] : List Value).toArray } = H2 at hns₁ hsb₁ ⊢
  have z1 : H1.objs.size = s₁.heap.objs.size + 1 := by rw [← hH1, Heap.size_push]
  have z2 : H2.objs.size = s₁.heap.objs.size + 2 := by rw [← hH2, Heap.size_push, z1]
  have up1 : ∀ b o, s₁.heap.get? b = some o → H1.get? b = some o := fun b o e => hH1 ▸ Heap.get?_push_of_some _ e
  have up2 : ∀ b o, H1.get? b = some o → H2.get? b = some o := fun b o e => hH2 ▸ Heap.get?_push_of_some _ e
  have lt2 : ∀ b o, H2.get? b = some o → h₁.get? b = some o := fun b o e => hsb₁.extBut b o (Nat.ne_of_lt (Heap.lt_size e)) (Heap.get?_push_of_some _ e)
  have hI : H1.get? s₁.heap.objs.size = some { cls := .type "list_iterator", data := .fields #[.ref ax, .int 0 0] } := hH1 ▸ Heap.get?_push_size _ rfl
  have hD : H2.get? H1.objs.size = some (lst []) := hH2 ▸ Heap.get?_push_size _ rfl
  have old : ∀ b o, s₁.heap.get? b = some o → h₁.get? b = some o := fun b o e => lt2 b o (up2 b o (up1 b o e))
  have fr0 : ∀ a, s₁.heap.objs.size ≤ a → h₀.get? a = none := fun a ha => by
    cases e : h₀.get? a with
    | none => rfl
    | some o' => exact absurd (Heap.lt_size (F.keep a o' e)) (Nat.not_lt.mpr ha)
  have hLlt := ltN F.ns.lt
  have base : ∀ h' : Heap, Kp3 s₁.heap.objs.size H2.objs.size H1.objs.size h₁ h' → ∀ b o, s₁.heap.get? b = some o → h'.get? b = some o := fun h' K b o e => by
    have hb := ltN (Heap.lt_size e)
    exact K b o (neN (by omega)) (neN (by omega)) (neN (by omega)) (old b o e)
  have loop : ∀ s₃ : Shared, s₃ = { s₁ with heap := h₁, toks := s₁.toks + ([] : List (Str × Value)).length } →
      codeAny (model PR w) A (.compLoop (.ListComp (.Name x₂ pe) [⟨.Tuple [.Name x px, .Name x₂ px₂] k0 tp, iter, [ct], 0⟩] scope pos) 0 (.ref s₁.heap.objs.size) (.ref H1.objs.size) (compEnvC scope cl H2.objs.size env))
        (compPost (model PR w) A E (some (assign (.Name y py) env)) (fun _ s' => Q .next s') (.ref H1.objs.size) H2.objs.size) s₃ := by
    rintro s₃ rfl
    refine comp_loop (I := s₁.heap.objs.size) (D := H1.objs.size) (ax := ax) (vs := vs) (c := c) (pr := pr) hh (by simp [compEnvC, relabel, hkind]) (lookup_relabel_local hx) (lookup_relabel_local hx₂) hxx hd (by simp [compEnvC, relabel, hkind])
      (neN (a := H1.objs.size) (b := H2.objs.size) (by omega)) (neN (by omega)) (neN (a := s₁.heap.objs.size) (b := H2.objs.size) (by omega)) (neN (by omega)) (neN (a := ax) (b := H2.objs.size) (by omega)) (neN (by omega))
      ⟨_, lt2 _ _ (up2 _ _ hI), rfl, rfl⟩ ⟨_, old _ _ (N _ hm).1, rfl, _, rfl⟩ (lt2 _ _ hD) hns₁ ?_ hP.len hsz ?_ ?_
    · intro i v hv
      obtain ⟨t, p, u, tp', tu, nt, e1, e2, e3⟩ := hP.at hv
      have ht := ltN (nlt _ e3)
      dsimp only at ht
      exact ⟨t, p, u, tp', tu, e1, e2, neN (by omega), neN (a := t) (b := H2.objs.size) (by omega), neN (by omega), ⟨_, old _ _ (N _ e3).1, rfl, _, rfl⟩⟩
    · intro h' tk m' p u tp' tu E' K hn' e1 e2
      obtain ⟨oC, heC, hoC⟩ := ns_obj hn'
      have bs := base h' K
      refine htest H2.objs.size oC h' tk m' p u tp' tu E' hoC e1 e2 (F.keeps bs) ?_
      intro q hq
      rcases List.mem_cons.mp hq with rfl | hq
      · exact ⟨heC, neN (a := H2.objs.size) (b := env.locals) (by omega), fr0 _ (by omega)⟩
      · exact ⟨bs _ _ (N q hq).1, (N q hq).2⟩
    · intro h' tk m' ys hn' hD' hys K
      have bs := base h' K
      have F' := F.keeps bs
      have N' : News h₀ env.locals h' ((H1.objs.size, lst ys) :: news) := by
        intro q hq
        rcases List.mem_cons.mp hq with rfl | hq
        · exact ⟨hD', neN (a := H1.objs.size) (b := env.locals) (by omega), fr0 _ (by omega)⟩
        · exact ⟨bs _ _ (N q hq).1, (N q hq).2⟩
      show wpAny _ A (assign (.Name y py) env (.ref H1.objs.size)) _ _ _
      refine wpAny_assign_Name (wpAny_storeName_local hy F'.ns (fun h₂ hn₂ hs₂ => ?_) hp)
      have hL₀ : h₀.get? env.locals = none := Heap.get?_none_of_le F'.above
      have F₂ : Fr h₀ env.locals h₂ (fun z => if z = y then some (.ref H1.objs.size) else m z) := ⟨hn₂, fun b o e => hs₂.extBut b o (fun q => by rw [q, hL₀] at e; cases e) (F'.keep b o e), F'.above⟩
      have hCL : H2.objs.size ≠ env.locals := neN (by omega)
      refine ⟨m', hn'.sameBut hs₂ hCL, fun h'' hs'' => hdone H1.objs.size h'' _ ys (F₂.change hs'' hCL (fr0 _ (by omega))) (fun q hq => ?_) (fun q hq => Nat.lt_trans (nlt q hq) (by omega)) hys⟩
      have z : h₂.get? q.1 = some q.2 := hs₂.extBut _ _ (N' q hq).2.1 (N' q hq).1
      refine ⟨hs''.extBut _ _ ?_ z, (N' q hq).2⟩
      rcases List.mem_cons.mp hq with rfl | hq
      · exact neN (a := H1.objs.size) (b := H2.objs.size) (by omega)
      · have := ltN (nlt q hq); exact neN (by omega)
  exact codeAny_compStart_list (loop _ rfl) (wpAny_pyIter_listiter ⟨_, lt2 _ _ (up2 _ _ hI), rfl, rfl⟩ (loop _ rfl))
end
section
open PySem.Calls

abbrev treeL (rl nl : Addr) (vs ns : List Value) (nr nn : Nat) (N : List NR) (rest : Led) : Led := (rl, listOf vs.toArray nr) :: (nl, listOf ns.toArray nn) :: (nodesL N ++ rest)

/-- the tree's fixed objects stand in the rest -/
def Fix (w : World) (tr rl el nl : Addr) (rest : Led) : Prop :=
  (∃ td kt nt, (tr, instObj 288 td) ∈ rest ∧ (td, dictOf [ent w (Str.ofString "rows") kt (.ref rl)] nt) ∈ rest) ∧
  ∃ ed es n t p u, (el, instObj 99 ed) ∈ rest ∧ (ed, dictOf es n) ∈ rest ∧ NodeEs w es (.str (Str.ofString "element") t) p u (.ref nl)
theorem Fix.mono {w : World} {tr rl el nl : Addr} {r r' : Led} (h : Fix w tr rl el nl r) (hs : ∀ p ∈ r, p ∈ r') : Fix w tr rl el nl r' := by
  obtain ⟨⟨td, kt, nt, a, b⟩, ed, es, n, t, p, u, c, d, e⟩ := h
  exact ⟨⟨td, kt, nt, hs _ a, hs _ b⟩, ed, es, n, t, p, u, hs _ c, hs _ d, e⟩
/-- another rest with the same or fewer addresses -/
theorem TI.chg {w : World} {tr rl el nl : Addr} {vs ns : List Value} {N : List NR} {rest rest' : Led} (T : TI w tr rl el nl vs ns N rest) (hf : Fix w tr rl el nl rest')
    (ha : ∀ q ∈ rest', ∃ q' ∈ rest, q'.1 = q.1) : TI w tr rl el nl vs ns N rest' := by
  refine ⟨hf.1, hf.2, T.hrl, ?_, ?_, T.nd, ?_, T.ok, T.vs, T.nsl, T.nsv, T.pn⟩
  · intro p hp
    rcases List.mem_append.mp hp with hp | hp
    · exact T.hr p (List.mem_append_left _ hp)
    · obtain ⟨q, hq, e⟩ := ha p hp
      rw [← e]; exact T.hr q (List.mem_append_right _ hq)
  · intro p hp
    rcases List.mem_append.mp hp with hp | hp
    · exact T.hn p (List.mem_append_left _ hp)
    · obtain ⟨q, hq, e⟩ := ha p hp
      rw [← e]; exact T.hn q (List.mem_append_right _ hq)
  · intro p hp q hq
    obtain ⟨q', hq', e⟩ := ha q hq
    rw [← e]; exact T.ap p hp q' hq'
theorem TI.push {w : World} {tr rl el nl : Addr} {vs ns : List Value} {nr nn : Nat} {N : List NR} {rest : Led} {x : Addr} {o : Obj} (T : TI w tr rl el nl vs ns N rest)
    (hx : ∀ p ∈ treeL rl nl vs ns nr nn N rest, p.1 ≠ x) : TI w tr rl el nl vs ns N ((x, o) :: rest) := by
  have hf : Fix w tr rl el nl rest := ⟨T.td, T.ed⟩
  have hf' := hf.mono (r' := (x, o) :: rest) fun p hp => .tail _ hp
  refine ⟨hf'.1, hf'.2, T.hrl, ?_, ?_, T.nd, ?_, T.ok, T.vs, T.nsl, T.nsv, T.pn⟩
  · intro p hp
    rcases List.mem_append.mp hp with hp | hp
    · exact T.hr p (List.mem_append_left _ hp)
    · rcases List.mem_cons.mp hp with rfl | hp
      · exact Ne.symm (hx _ (.head _))
      · exact T.hr p (List.mem_append_right _ hp)
  · intro p hp
    rcases List.mem_append.mp hp with hp | hp
    · exact T.hn p (List.mem_append_left _ hp)
    · rcases List.mem_cons.mp hp with rfl | hp
      · exact Ne.symm (hx _ (.tail _ (.head _)))
      · exact T.hn p (List.mem_append_right _ hp)
  · intro p hp q hq
    rcases List.mem_cons.mp hq with rfl | hq
    · exact hx p (.tail _ (.tail _ (List.mem_append_left _ hp)))
    · exact T.ap p hp q hq
theorem TI.updF {w : World} {tr rl el nl : Addr} {vs ns : List Value} {nr nn : Nat} {N : List NR} {rest : Led} {d : Addr} {o : Obj} {g : Obj → Led} (T : TI w tr rl el nl vs ns N rest) (U : UpdF d o rest g) :
    UpdF d o (treeL rl nl vs ns nr nn N rest) (fun o' => treeL rl nl vs ns nr nn N (g o')) := by
  have hm := UpdF.here U
  refine .tail (fun z => T.hr _ (List.mem_append_right _ hm) z.symm) (.tail (fun z => T.hn _ (List.mem_append_right _ hm) z.symm) (UpdF.app U fun p hp => T.ap p hp _ hm))
theorem UpdF.fst {d : Addr} {o : Obj} {l : Led} {g : Obj → Led} (U : UpdF d o l g) (o' : Obj) : ∀ q ∈ g o', ∃ q' ∈ l, q'.1 = q.1 := by
  obtain ⟨pre, post, e, e', h1, h2⟩ := U.split
  rw [e' o', e]
  intro q hq
  rcases List.mem_append.mp hq with hq | hq
  · exact ⟨q, List.mem_append_left _ hq, rfl⟩
  · rcases List.mem_cons.mp hq with rfl | hq
    · exact ⟨_, List.mem_append_right _ (.head _), rfl⟩
    · exact ⟨q, List.mem_append_right _ (.tail _ hq), rfl⟩
theorem UpdF.ne1 {d x : Addr} {o : Obj} {l : Led} {g : Obj → Led} (U : UpdF d o l g) (h : ∀ p ∈ l, p.1 ≠ x) : d ≠ x := h _ (UpdF.here U)

/-! the plain law -/
def dueStep (rows cs : Prs) (c : Prs) (pr : Str) : Prs :=
  let uri := if (sel pr rows) = [] then (lk cs pr).getD (Str.ofString "") else (sel pr rows).getLastD (Str.ofString "")
  if uri = Str.ofString "" then c else put c pr uri
def due (rows cs : Prs) : Prs := [Str.ofString "", Str.ofString "a", Str.ofString "p", Str.ofString "q", Str.ofString "xml"].foldl (dueStep rows cs) []
def psOf (rows : Prs) : Prs := rows.foldl (fun c q => put c q.1 q.2) []

theorem lk_cons (k v : Str) (c : Prs) (z : Str) : lk ((k, v) :: c) z = if k = z then some v else lk c z := by
  by_cases e : k = z
  · simp [lk, e]
  · simp [lk, e]
theorem lk_map (c : Prs) (k v z : Str) : lk (c.map fun p => if p.1 = k then (p.1, v) else p) z = if z = k then (lk c k).map (fun _ => v) else lk c z := by
  induction c with
  | nil => simp [lk]
  | cons q c ih =>
    obtain ⟨a, b⟩ := q
    by_cases e : a = k
    · subst e
      simp only [List.map_cons, if_true, lk_cons]
      rw [ih]
      by_cases e2 : z = a
      · subst e2; simp
      · have e3 : ¬ a = z := fun x => e2 x.symm
        simp [e2, e3]
    · simp only [List.map_cons, if_neg e, lk_cons]
      rw [ih]
      by_cases e2 : z = k
      · subst e2; simp [e]
      · simp [e2]
theorem lk_append (c d : Prs) (z : Str) : lk (c ++ d) z = (lk c z).or (lk d z) := by
  induction c with
  | nil => simp [lk]
  | cons q c ih =>
    obtain ⟨a, b⟩ := q
    rw [List.cons_append, lk_cons, lk_cons, ih]
    by_cases e : a = z <;> simp [e]
theorem lk_any (c : Prs) (k : Str) : (c.any fun p => decide (p.1 = k)) = (lk c k).isSome := by
  induction c with
  | nil => simp [lk]
  | cons q c ih =>
    obtain ⟨a, b⟩ := q
    rw [List.any_cons, ih, lk_cons]
    by_cases e : a = k <;> simp [e]
theorem lk_put (c : Prs) (k v z : Str) : lk (put c k v) z = if z = k then some v else lk c z := by
  unfold put
  rw [lk_any]
  cases h : lk c k with
  | some x =>
    rw [if_pos (by rfl), lk_map, h]; rfl
  | none =>
    rw [if_neg (by simp), lk_append, lk_cons]
    by_cases e : z = k
    · subst e; simp [h]
    · have e3 : ¬ k = z := fun x => e x.symm
      simp [e, e3, lk]
theorem lk_del (c : Prs) (k z : Str) : lk (del c k) z = if z = k then none else lk c z := by
  induction c with
  | nil => simp [lk, del]
  | cons q c ih =>
    obtain ⟨a, b⟩ := q
    unfold del at *
    by_cases e : a = k
    · subst e
      rw [List.filter_cons_of_neg (by simp), ih, lk_cons]
      by_cases e2 : z = a
      · simp [e2]
      · have e3 : ¬ a = z := fun x => e2 x.symm
        simp [e2, e3]
    · rw [List.filter_cons_of_pos (by simp [e]), lk_cons, lk_cons, ih]
      by_cases e2 : z = k
      · subst e2; simp [e]
      · simp [e2]

theorem sel_cons (q : Str × Str) (r : Prs) (z : Str) : sel z (q :: r) = if q.1 = z then q.2 :: sel z r else sel z r := by
  by_cases e : q.1 = z <;> simp [sel, e]
theorem lk_puts (rows : Prs) (z : Str) : ∀ c0 : Prs, lk (rows.foldl (fun c q => put c q.1 q.2) c0) z = if sel z rows = [] then lk c0 z else some ((sel z rows).getLastD (Str.ofString "")) := by
  induction rows with
  | nil => intro c0; simp [sel]
  | cons q r ih =>
    intro c0
    rw [List.foldl_cons, ih, lk_put, sel_cons]
    by_cases e : q.1 = z
    · have e' : z = q.1 := e.symm
      rw [if_pos e, if_pos e']
      by_cases h : sel z r = []
      · simp [h]
      · rw [if_neg h, if_neg (by simp)]
        cases hh : sel z r with
        | nil => exact absurd hh h
        | cons x xs => rfl
    · have e' : ¬ z = q.1 := fun x => e x.symm
      rw [if_neg e, if_neg e']
theorem lk_dstep (c : Prs) (q : Str × Str) (z : Str) : lk (dstep c q) z = if z = q.1 then (if q.2 = Str.ofString "" then none else some q.2) else lk c z := by
  unfold dstep
  by_cases h : q.2 = Str.ofString ""
  · rw [if_neg (fun x => x h), lk_del, if_pos h]
  · rw [if_pos h, lk_put, if_neg h]
theorem lk_not {c : Prs} {z : Str} (h : z ∉ c.map (·.1)) : lk c z = none := by
  cases e : lk c z with
  | none => rfl
  | some v =>
    have := lk_mem e
    exact absurd (List.mem_map.mpr ⟨_, this, rfl⟩) h
theorem lk_dsteps (ps : Prs) (z : Str) (hn : (ps.map (·.1)).Nodup) : ∀ c0 : Prs, lk (ps.foldl dstep c0) z = match lk ps z with | some u => if u = Str.ofString "" then none else some u | none => lk c0 z := by
  induction ps with
  | nil => intro c0; simp [lk]
  | cons q r ih =>
    intro c0
    obtain ⟨a, b⟩ := q
    rw [List.map_cons] at hn
    have h1 := List.nodup_cons.mp hn
    rw [List.foldl_cons, ih h1.2, lk_cons, lk_dstep]
    by_cases e : a = z
    · subst e
      rw [lk_not h1.1]; simp
    · have e' : ¬ z = a := fun x => e x.symm
      simp only [if_neg e, if_neg e']
def uriOf (rows cs : Prs) (pr : Str) : Str := if (sel pr rows) = [] then (lk cs pr).getD (Str.ofString "") else (sel pr rows).getLastD (Str.ofString "")
theorem dueStep_eq (rows cs c : Prs) (pr : Str) : dueStep rows cs c pr = if uriOf rows cs pr = Str.ofString "" then c else put c pr (uriOf rows cs pr) := rfl
theorem lk_due (rows cs : Prs) (z : Str) : ∀ (ks : List Str), ks.Nodup → ∀ c0 : Prs, lk (ks.foldl (dueStep rows cs) c0) z = if z ∈ ks ∧ uriOf rows cs z ≠ Str.ofString "" then some (uriOf rows cs z) else lk c0 z := by
  intro ks
  induction ks with
  | nil => intro _ c0; simp
  | cons k ks ih =>
    intro hn c0
    have h1 := List.nodup_cons.mp hn
    rw [List.foldl_cons, ih h1.2, dueStep_eq]
    by_cases e : z = k
    · subst e
      rw [if_neg (fun x => h1.1 x.1)]
      by_cases h : uriOf rows cs z = Str.ofString ""
      · rw [if_pos h, if_neg (fun x => x.2 h)]
      · rw [if_neg h, if_pos ⟨.head _, h⟩, lk_put, if_pos rfl]
    · have hl : lk (if uriOf rows cs k = Str.ofString "" then c0 else put c0 k (uriOf rows cs k)) z = lk c0 z := by
        by_cases h : uriOf rows cs k = Str.ofString ""
        · rw [if_pos h]
        · rw [if_neg h, lk_put, if_neg e]
      rw [hl]
      have : (z ∈ k :: ks) ↔ z ∈ ks := by simp [e]
      simp only [this]
theorem lk_of_pair {c : Prs} (hn : (c.map (·.1)).Nodup) {k v : Str} (h : (k, v) ∈ c) : lk c k = some v := by
  induction c with
  | nil => cases h
  | cons q r ih =>
    obtain ⟨a, b⟩ := q
    have h1 := List.nodup_cons.mp hn
    rw [lk_cons]
    rcases List.mem_cons.mp h with e | h
    · cases e; simp
    · have : a ≠ k := fun e => h1.1 (by rw [e]; exact List.mem_map.mpr ⟨_, h, rfl⟩)
      rw [if_neg this]; exact ih h1.2 h
theorem sameD_of {c1 c2 : Prs} (h1 : (c1.map (·.1)).Nodup) (h2 : (c2.map (·.1)).Nodup) (h : ∀ z, lk c1 z = lk c2 z) : sameD c1 c2 = true := by
  have sub : ∀ (a b : Prs), (a.map (·.1)).Nodup → (∀ z, lk a z = lk b z) → ∀ z ∈ a.map (·.1), z ∈ b.map (·.1) := by
    intro a b ha hz z hm
    obtain ⟨q, hq, rfl⟩ := List.mem_map.mp hm
    have := hz q.1
    rw [lk_of_pair ha (show (q.1, q.2) ∈ a from hq)] at this
    exact List.mem_map.mpr ⟨_, lk_mem this.symm, rfl⟩
  have hp : (c1.map (·.1)).Perm (c2.map (·.1)) := (List.perm_ext_iff_of_nodup h1 h2).mpr fun z => ⟨sub _ _ h1 h z, sub _ _ h2 (fun z => (h z).symm) z⟩
  have hl := hp.length_eq
  rw [List.length_map, List.length_map] at hl
  unfold sameD
  rw [Bool.and_eq_true]
  refine ⟨by simp [hl], List.all_eq_true.mpr fun q hq => decide_eq_true ?_⟩
  rw [← h, lk_of_pair h1 (show (q.1, q.2) ∈ c1 from hq)]
theorem sel_mem {z : Str} {rows : Prs} (h : sel z rows ≠ []) : ∃ q ∈ rows, q.1 = z := by
  unfold sel at h
  cases e : rows.filter (fun q => q.1 == z) with
  | nil => rw [e] at h; simp at h
  | cons q r =>
    have : q ∈ rows.filter (fun q => q.1 == z) := by rw [e]; exact .head _
    have := List.mem_filter.mp this
    exact ⟨q, this.1, by simpa using this.2⟩
theorem v4_ne {v : Str} (h : v ∈ V4) : v ≠ Str.ofString "" := by
  simp only [V4, List.mem_cons, List.not_mem_nil, or_false] at h
  rcases h with h | h | h | h <;> subst h <;> decide +kernel
theorem within_eq {rows cs ps : Prs} (hps : ps = psOf rows) (hn : (ps.map (·.1)).Nodup) (hG : Good cs) (hr : ∀ q ∈ rows, q.1 ∈ K5) (h1 : ((ps.foldl dstep cs).map (·.1)).Nodup) (h2 : ((due rows cs).map (·.1)).Nodup) :
    sameD (ps.foldl dstep cs) (due rows cs) = true := by
  refine sameD_of h1 h2 fun z => ?_
  have hK : ∀ {k : Str}, k ∈ K5 → k ∈ [Str.ofString "", Str.ofString "a", Str.ofString "p", Str.ofString "q", Str.ofString "xml"] := by
    intro k hk
    simp only [K5, List.mem_cons, List.not_mem_nil, or_false] at hk ⊢
    rcases hk with h | h | h | h | h <;> simp [h]
  rw [lk_dsteps ps z hn, due, lk_due rows cs z _ (by decide +kernel), hps, psOf, lk_puts]
  unfold uriOf
  by_cases hs : sel z rows = []
  · simp only [hs, if_true]
    cases hc : lk cs z with
    | none => simp [lk]
    | some v =>
      have hg := hG _ (lk_mem hc)
      rw [if_pos ⟨hK hg.1, v4_ne hg.2⟩]
      simp [lk]
  · obtain ⟨q, hq, rfl⟩ := sel_mem hs
    simp only [if_neg hs]
    by_cases hu : (sel q.1 rows).getLastD (Str.ofString "") = Str.ofString ""
    · rw [if_pos hu, if_neg (fun x => x.2 hu)]; rfl
    · rw [if_neg hu, if_pos ⟨hK (hr q hq), hu⟩]
end
section
open PySem.Calls

/-- the fresh addresses of the tree, in the order of their making -/
theorem TI.init {w : World} {tr rl el nl td ed rt ce : Addr} {kt : Tok} {nt ne : Nat} {es : List DictEntry} {te : Tok} {pe ue : Str} {oc : Obj} {led : Led} (hes : NodeEs w es (.str (Str.ofString "element") te) pe ue (.ref nl))
    (h1 : ce < td ∧ AllLt td led) (h2 : td < tr) (h3 : tr < rl) (h4 : rl < ed) (h5 : ed < el) (h6 : el < nl) :
    TI w tr rl el nl [.ref rt, .ref el] [] [] ((tr, instObj 288 td) :: (td, dictOf [ent w (Str.ofString "rows") kt (.ref rl)] nt) :: (el, instObj 99 ed) :: (ed, dictOf es ne) :: (ce, oc) :: led) := by
  have h1' := lt_allLt h1.2
  have a1 := Nat.lt_trans h2 h3
  have a2 := Nat.lt_trans h1.1 a1
  have a3 := Nat.lt_trans h4 h5
  have a4 := Nat.lt_trans h5 h6
  have a5 := Nat.lt_trans h4 a4
  refine ⟨⟨td, kt, nt, .head _, .tail _ (.head _)⟩, ⟨ed, es, ne, te, pe, ue, .tail _ (.tail _ (.head _)), .tail _ (.tail _ (.tail _ (.head _))), hes⟩, Nat.ne_of_lt a5, ?_, ?_, List.nodup_nil, (fun p hp => nomatch hp), (fun _ h => nomatch h), ⟨rt, rfl⟩, rfl, (fun _ _ e => by simp at e), List.nodup_nil⟩
  · intro p hp
    rcases List.mem_cons.mp hp with rfl | hp
    · exact Nat.ne_of_lt h3
    rcases List.mem_cons.mp hp with rfl | hp
    · exact Nat.ne_of_lt a1
    rcases List.mem_cons.mp hp with rfl | hp
    · exact Nat.ne_of_gt a3
    rcases List.mem_cons.mp hp with rfl | hp
    · exact Nat.ne_of_gt h4
    rcases List.mem_cons.mp hp with rfl | hp
    · exact Nat.ne_of_lt a2
    · exact Nat.ne_of_lt (Nat.lt_trans (h1' p hp) a1)
  · intro p hp
    rcases List.mem_cons.mp hp with rfl | hp
    · exact Nat.ne_of_lt (Nat.lt_trans h3 a5)
    rcases List.mem_cons.mp hp with rfl | hp
    · exact Nat.ne_of_lt (Nat.lt_trans a1 a5)
    rcases List.mem_cons.mp hp with rfl | hp
    · exact Nat.ne_of_lt h6
    rcases List.mem_cons.mp hp with rfl | hp
    · exact Nat.ne_of_lt a4
    rcases List.mem_cons.mp hp with rfl | hp
    · exact Nat.ne_of_lt (Nat.lt_trans a2 a5)
    · exact Nat.ne_of_lt (Nat.lt_trans (h1' p hp) (Nat.lt_trans a1 a5))

theorem within_init {w : World} {h₀ h : Heap} {L tr rl el nl td ed rt ce rw : Addr} {kt : Tok} {nt ne nn nr nw : Nat} {es : List DictEntry} {te : Tok} {pe ue : Str} {oc : Obj} {led : Led} {X : Prop}
    (N : News h₀ L h ((rl, listOf #[.ref rt, .ref el] nr) :: (nl, listOf #[] nn) :: (rw, listOf #[] nw) :: (tr, instObj 288 td) :: (td, dictOf [ent w (Str.ofString "rows") kt (.ref rl)] nt) :: (el, instObj 99 ed) :: (ed, dictOf es ne) :: (ce, oc) :: led))
    (hes : NodeEs w es (.str (Str.ofString "element") te) pe ue (.ref nl))
    (h1 : ce < td ∧ AllLt td led) (h2 : td < tr) (h3 : tr < rl) (h4 : rl < ed) (h5 : ed < el) (h6 : el < nl) (h7 : nl < rw ∧ X) :
    ∃ rest, rest = (tr, instObj 288 td) :: (td, dictOf [ent w (Str.ofString "rows") kt (.ref rl)] nt) :: (el, instObj 99 ed) :: (ed, dictOf es ne) :: (ce, oc) :: led ∧ Fix w tr rl el nl rest ∧ (∀ p ∈ rest, p.1 < rw) ∧
      TI w tr rl el nl [.ref rt, .ref el] [] [] ((rw, listOf [].toArray nw) :: ([] ++ rest)) ∧ News h₀ L h (treeL rl nl [.ref rt, .ref el] [] nr nn [] ((rw, listOf [].toArray nw) :: ([] ++ rest))) := by
  have I0 := TI.init (w := w) (rt := rt) (ce := ce) (oc := oc) (nt := nt) (ne := ne) (kt := kt) hes h1 h2 h3 h4 h5 h6
  have h1' := lt_allLt h1.2
  have b1 := Nat.lt_trans h6 h7.1
  have b2 := Nat.lt_trans h5 b1
  have b3 := Nat.lt_trans h4 b2
  have b4 := Nat.lt_trans h3 b3
  have b5 := Nat.lt_trans h2 b4
  have b6 := Nat.lt_trans h1.1 b5
  have hlt : ∀ p ∈ (tr, instObj 288 td) :: (td, dictOf [ent w (Str.ofString "rows") kt (.ref rl)] nt) :: (el, instObj 99 ed) :: (ed, dictOf es ne) :: (ce, oc) :: led, p.1 < rw := by
    intro p hp
    rcases List.mem_cons.mp hp with rfl | hp
    · exact b4
    rcases List.mem_cons.mp hp with rfl | hp
    · exact b5
    rcases List.mem_cons.mp hp with rfl | hp
    · exact b1
    rcases List.mem_cons.mp hp with rfl | hp
    · exact b2
    rcases List.mem_cons.mp hp with rfl | hp
    · exact b6
    · exact Nat.lt_trans (h1' p hp) b5
  refine ⟨_, rfl, ⟨I0.td, I0.ed⟩, hlt, ?_, N⟩
  refine I0.push (nr := nr) (nn := nn) fun p hp => ?_
  rcases List.mem_cons.mp hp with rfl | hp
  · exact Nat.ne_of_lt b3
  rcases List.mem_cons.mp hp with rfl | hp
  · exact Nat.ne_of_lt h7.1
  · exact Nat.ne_of_lt (hlt p hp)

theorem within_upd {src tr td el ed ce rl : Addr} {o a1 a2 a3 a4 a5 : Obj} {led : Led} {g : Obj → Led} (U : UpdF src o led g) (hce : ∀ p ∈ led, p.1 < ce) (h1 : ce < td ∧ AllLt td led) (h2 : td < tr) (h3 : tr < rl) (h4 : rl < ed) (h5 : ed < el) :
    UpdF src o ((tr, a1) :: (td, a2) :: (el, a3) :: (ed, a4) :: (ce, a5) :: led) (fun o' => (tr, a1) :: (td, a2) :: (el, a3) :: (ed, a4) :: (ce, a5) :: g o') := by
  have hs := hce _ (UpdF.here U)
  have c1 := Nat.lt_trans hs h1.1
  have c2 := Nat.lt_trans c1 h2
  have c3 := Nat.lt_trans c2 (Nat.lt_trans h3 h4)
  exact .tail (Nat.ne_of_gt c2) (.tail (Nat.ne_of_gt c1) (.tail (Nat.ne_of_gt (Nat.lt_trans c3 h5)) (.tail (Nat.ne_of_gt c3) (.tail (Nat.ne_of_gt hs) U))))
theorem UpdF.id {d : Addr} {o : Obj} {l : Led} {g : Obj → Led} (U : UpdF d o l g) : g o = l := by
  obtain ⟨pre, post, e, e', h1, h2⟩ := U.split
  rw [e' o, e]
theorem within_start {w : World} {h₀ h : Heap} {L tr rl el nl td ed rt ce rw src : Addr} {o : Obj} {g : Obj → Led} {kt : Tok} {nt ne nn nr nw : Nat} {es : List DictEntry} {te : Tok} {pe ue : Str} {oc : Obj} {led : Led} {X : Prop}
    (N : News h₀ L h ((rl, listOf #[.ref rt, .ref el] nr) :: (nl, listOf #[] nn) :: (rw, listOf #[] nw) :: (tr, instObj 288 td) :: (td, dictOf [ent w (Str.ofString "rows") kt (.ref rl)] nt) :: (el, instObj 99 ed) :: (ed, dictOf es ne) :: (ce, oc) :: led))
    (hes : NodeEs w es (.str (Str.ofString "element") te) pe ue (.ref nl)) (U : UpdF src o led g) (hce : ∀ p ∈ led, p.1 < ce)
    (h1 : ce < td ∧ AllLt td led) (h2 : td < tr) (h3 : tr < rl) (h4 : rl < ed) (h5 : ed < el) (h6 : el < nl) (h7 : nl < rw ∧ X) :
    ∃ rF : Obj → Led, (rF = fun o' => (tr, instObj 288 td) :: (td, dictOf [ent w (Str.ofString "rows") kt (.ref rl)] nt) :: (el, instObj 99 ed) :: (ed, dictOf es ne) :: (ce, oc) :: g o') ∧ UpdF src o (rF o) rF ∧ (∀ o', Fix w tr rl el nl (rF o')) ∧ (∀ p ∈ rF o, p.1 < rw) ∧ rw ≠ src ∧
      TI w tr rl el nl [.ref rt, .ref el] [] [] ((rw, listOf [].toArray nw) :: ([] ++ rF o)) ∧ News h₀ L h (treeL rl nl [.ref rt, .ref el] [] nr nn [] ((rw, listOf [].toArray nw) :: ([] ++ rF o))) := by
  obtain ⟨rest, hrest, hfix, hrw, I1, N2⟩ := within_init N hes h1 h2 h3 h4 h5 h6 h7
  have hU := within_upd (a1 := instObj 288 td) (a2 := dictOf [ent w (Str.ofString "rows") kt (.ref rl)] nt) (a3 := instObj 99 ed) (a4 := dictOf es ne) (a5 := oc) U hce h1 h2 h3 h4 h5
  have hid := UpdF.id hU
  rw [← hrest] at hU hid
  refine ⟨_, rfl, ?_, ?_, ?_, ?_, ?_, ?_⟩
  · rw [hid]; exact hU
  · intro o'
    refine ⟨⟨td, kt, nt, .head _, .tail _ (.head _)⟩, ⟨ed, es, ne, te, pe, ue, .tail _ (.tail _ (.head _)), .tail _ (.tail _ (.tail _ (.head _))), hes⟩⟩
  · rw [hid]; exact hrw
  · have := hrw _ (UpdF.here hU)
    exact Ne.symm (Nat.ne_of_lt this)
  · rw [hid]; exact I1
  · rw [hid]; exact N2
/-- the loop's state -/
def WJ (w : World) (src tr rl el nl rw : Addr) (rest : Obj → Led) (i : Nat) (rows : Prs) (nx : Led) : Prop :=
  ∃ (vs ns rv : List Value) (N : List NR) (nr nn nw : Nat) (tl : Led) (a b : Int) (ta tb : Tok) (n : Nat),
    TI w tr rl el nl vs ns N ((rw, listOf rv.toArray nw) :: (tl ++ rest (srcObj a b ta tb n))) ∧ PairsAt tl rv rows ∧ rows.length = i ∧ N.length ≤ i ∧ pairs N = psOf rows ∧ (∀ q ∈ rows, q.1 ∈ K5) ∧ Src a b ∧
      (∀ p ∈ tl ++ rest (srcObj a b ta tb n), p.1 ≠ rw) ∧ (∀ p ∈ tl, ∀ q ∈ rest (srcObj a b ta tb n), p.1 ≠ q.1) ∧ nx = treeL rl nl vs ns nr nn N ((rw, listOf rv.toArray nw) :: (tl ++ rest (srcObj a b ta tb n)))
theorem item_last {w : World} {A : Around} {E : Value → Shared → Prop} {s : Shared} {value slice : PySem.Expr} {l : Addr} {vs : List Value} {v : Value} {u : Tok} {Q : Value → Shared → Prop} (hl : s.heap.IsList l (vs ++ [v]).toArray) (h : Q v s)
    (hs : subscripted slice false (.ref l) (.int (-1) u) = operate [.ref l, .int (-1) u] (getItem (.ref l) (.int (-1) u)) := by with_unfolding_all rfl) :
    wpAny (model PR w) A (subscriptTail value slice (.ref l) (.int (-1) u)) Q E s :=
  tail_any hl.typeIs slot_list_getitem.lookup (wpAny_getItem_list_neg hl (by decide) (by simp; omega) (by decide) (by
    have : ((-1 : Int) + ((vs ++ [v]).toArray.size : Int)).toNat = vs.length := by simp; omega
    rw [this]; simp) h) hs
theorem treeL_rest {rl nl : Addr} {vs ns : List Value} {nr nn : Nat} {N : List NR} {rest : Led} {p : Addr × Obj} (h : p ∈ rest) : p ∈ treeL rl nl vs ns nr nn N rest := .tail _ (.tail _ (List.mem_append_right _ h))
/-- the ledger that add_namespace takes -/
theorem treeL_in {rl nl : Addr} {vs ns : List Value} {nr nn : Nat} {N : List NR} {rest : Led} {x : Addr × Obj} : ∀ p ∈ treeL rl nl vs ns nr nn N (x :: rest), p ∈ x :: treeL rl nl vs ns nr nn N rest := by
  intro p hp
  simp only [List.mem_cons, List.mem_append] at hp ⊢
  rcases hp with h | h | h | h | h <;> simp [h]
theorem treeL_out {rl nl : Addr} {vs ns : List Value} {nr nn : Nat} {N : List NR} {rest : Led} {x : Addr × Obj} : ∀ p ∈ x :: treeL rl nl vs ns nr nn N rest, p ∈ treeL rl nl vs ns nr nn N (x :: rest) := by
  intro p hp
  simp only [List.mem_cons, List.mem_append] at hp ⊢
  rcases hp with h | h | h | h | h <;> simp [h]
end
section
open PySem.Calls

theorem WJ.start {w : World} {src tr rl el nl rw rt : Addr} {rF : Obj → Led} {o : Obj} {nr nn nw : Nat} {a b : Int} {ta tb : Tok} {n : Nat} (hU : UpdF src o (rF o) rF) (hfix : ∀ o', Fix w tr rl el nl (rF o')) (hrw : ∀ p ∈ rF o, p.1 < rw) (hs : Src a b)
    (I : TI w tr rl el nl [.ref rt, .ref el] [] [] ((rw, listOf [].toArray nw) :: ([] ++ rF o))) :
    WJ w src tr rl el nl rw rF 0 [] (treeL rl nl [.ref rt, .ref el] [] nr nn [] ((rw, listOf [].toArray nw) :: ([] ++ rF (srcObj a b ta tb n)))) := by
  refine ⟨_, _, [], [], nr, nn, nw, [], a, b, ta, tb, n, I.chg ((hfix _).mono fun p hp => .tail _ hp) ?_, .nil, rfl, Nat.le_refl _, rfl, (fun _ h => nomatch h), hs, ?_, (fun _ h => nomatch h), rfl⟩
  · intro q hq
    rcases List.mem_cons.mp hq with rfl | hq
    · exact ⟨_, .head _, rfl⟩
    · obtain ⟨q', hq', e⟩ := UpdF.fst hU _ q hq
      exact ⟨q', .tail _ hq', e⟩
  · intro p hp
    obtain ⟨q', hq', e⟩ := UpdF.fst hU _ p hp
    rw [← e]; exact Nat.ne_of_lt (hrw q' hq')
theorem WJ.mid {w : World} {src tr rl el nl rw tup : Addr} {rF : Obj → Led} {o3 o4 orw orw' ot : Obj} {vs ns : List Value} {nr nn : Nat} {N : List NR} {tl : Led} (IT : TI w tr rl el nl vs ns N ((rw, orw) :: (tl ++ rF o3))) (hU : UpdF src o3 (rF o3) rF) (hfix : ∀ o', Fix w tr rl el nl (rF o'))
    (ht : ∀ p ∈ treeL rl nl vs ns nr nn N ((rw, orw) :: (tl ++ rF o4)), p.1 ≠ tup) : TI w tr rl el nl vs ns N ((rw, orw') :: (((tup, ot) :: tl) ++ rF o4)) := by
  have I4 : TI w tr rl el nl vs ns N ((rw, orw) :: (tl ++ rF o4)) := IT.chg ((hfix _).mono fun p hp => .tail _ (List.mem_append_right _ hp)) (by
    intro q hq
    rcases List.mem_cons.mp hq with rfl | hq
    · exact ⟨_, .head _, rfl⟩
    · rcases List.mem_append.mp hq with hq | hq
      · exact ⟨q, .tail _ (List.mem_append_left _ hq), rfl⟩
      · obtain ⟨q', hq', e⟩ := UpdF.fst hU _ q hq
        exact ⟨q', .tail _ (List.mem_append_right _ hq'), e⟩)
  have I5 := I4.push (x := tup) (o := ot) ht
  refine I5.chg ((hfix _).mono fun p hp => .tail _ (List.mem_append_right _ hp)) ?_
  intro q hq
  rcases List.mem_cons.mp hq with rfl | hq
  · exact ⟨_, .tail _ (.head _), rfl⟩
  · rcases List.mem_append.mp hq with hq | hq
    · rcases List.mem_cons.mp hq with rfl | hq
      · exact ⟨_, .head _, rfl⟩
      · exact ⟨q, .tail _ (.tail _ (List.mem_append_left _ hq)), rfl⟩
    · exact ⟨q, .tail _ (.tail _ (List.mem_append_right _ hq)), rfl⟩
/-- off an address, after the turn's changes -/
theorem WJ.off {src rl nl rw tup I9 : Addr} {rF : Obj → Led} {o3 o4 orw orw' ot : Obj} {vs ns : List Value} {nr nn nr' nn' : Nat} {vs' ns' : List Value} {N : List NR} {tl : Led} (hU : UpdF src o3 (rF o3) rF) (hI : ∀ p ∈ treeL rl nl vs ns nr nn N ((rw, orw) :: (tl ++ rF o3)), p.1 ≠ I9) (ht : tup ≠ I9) :
    ∀ p ∈ treeL rl nl vs' ns' nr' nn' N ((rw, orw') :: (((tup, ot) :: tl) ++ rF o4)), p.1 ≠ I9 := by
  intro p hp
  rcases List.mem_cons.mp hp with rfl | hp
  · exact hI (rl, listOf vs.toArray nr) (.head _)
  rcases List.mem_cons.mp hp with rfl | hp
  · exact hI (nl, listOf ns.toArray nn) (.tail _ (.head _))
  rcases List.mem_append.mp hp with hp | hp
  · exact hI p (.tail _ (.tail _ (List.mem_append_left _ hp)))
  rcases List.mem_cons.mp hp with rfl | hp
  · exact hI (rw, orw) (treeL_rest (.head _))
  rcases List.mem_append.mp hp with hp | hp
  · rcases List.mem_cons.mp hp with rfl | hp
    · exact ht
    · exact hI p (treeL_rest (.tail _ (List.mem_append_left _ hp)))
  · obtain ⟨q', hq', e⟩ := UpdF.fst hU _ p hp
    rw [← e]; exact hI q' (treeL_rest (.tail _ (List.mem_append_right _ hq')))
theorem psOf_snoc (rows : Prs) (p u : Str) : psOf (rows ++ [(p, u)]) = put (psOf rows) p u := by
  unfold psOf; rw [List.foldl_append]; rfl
theorem WJ.next {w : World} {src tr rl el nl rw tup I9 : Addr} {rF : Obj → Led} {it : Obj} {vs' ns' rv : List Value} {nr' nn' nw nt : Nat} {N N' : List NR} {tl : Led} {a b : Int} {ta tb tp tu : Tok} {n i : Nat} {rows : Prs} {p u : Str} {o3 : Obj} (hfix : ∀ o', Fix w tr rl el nl (rF o')) (hU : UpdF src o3 (rF o3) rF)
    (I : TI w tr rl el nl vs' ns' N' ((I9, it) :: (rw, listOf (rv ++ [Value.ref tup]).toArray nw) :: (((tup, ({ cls := .type "tuple", data := .seq #[.str p tp, .str u tu] nt } : Obj)) :: tl) ++ rF (srcObj a b ta tb n))))
    (hP : PairsAt tl rv rows) (hrl : rows.length = i) (hNl : N.length ≤ i) (hps : pairs N = psOf rows) (hK : ∀ q ∈ rows, q.1 ∈ K5) (hp5 : p ∈ K5) (hs : Src a b) (hoff : ∀ p ∈ tl ++ rF o3, p.1 ≠ rw) (hts : ∀ p ∈ tl, ∀ q ∈ rF o3, p.1 ≠ q.1) (t1 : tup ≠ rw) (t2 : ∀ q ∈ rF (srcObj a b ta tb n), tup ≠ q.1)
    (hN' : pairs N' = put (pairs N) p u) (hl' : N'.length ≤ N.length + 1) :
    WJ w src tr rl el nl rw rF (i + 1) (rows ++ [(p, u)]) (treeL rl nl vs' ns' nr' nn' N' ((rw, listOf (rv ++ [Value.ref tup]).toArray nw) :: (((tup, ({ cls := .type "tuple", data := .seq #[.str p tp, .str u tu] nt } : Obj)) :: tl) ++ rF (srcObj a b ta tb n)))) := by
  refine ⟨vs', ns', rv ++ [Value.ref tup], N', nr', nn', nw, (tup, ({ cls := .type "tuple", data := .seq #[.str p tp, .str u tu] nt } : Obj)) :: tl, a, b, ta, tb, n, I.chg ((hfix _).mono fun p hp => .tail _ (List.mem_append_right _ hp)) (fun q hq => ⟨q, .tail _ hq, rfl⟩), ?_, by simp [hrl], by omega, ?_, ?_, hs, ?_, ?_, rfl⟩
  · exact PairsAt.snoc (hP.mono fun p hp => .tail _ hp) (.head _)
  · rw [hN', hps, psOf_snoc]
  · intro q hq
    rcases List.mem_append.mp hq with hq | hq
    · exact hK q hq
    · rw [List.mem_singleton.mp hq]; exact hp5
  · intro q hq
    rcases List.mem_append.mp hq with hq | hq
    · rcases List.mem_cons.mp hq with rfl | hq
      · exact t1
      · exact hoff q (List.mem_append_left _ hq)
    · obtain ⟨q', hq', e⟩ := UpdF.fst hU _ q hq
      rw [← e]; exact hoff q' (List.mem_append_right _ hq')
  · intro q hq q2 hq2
    rcases List.mem_cons.mp hq with rfl | hq
    · exact t2 q2 hq2
    · obtain ⟨q', hq', e⟩ := UpdF.fst hU _ q2 hq2
      rw [← e]; exact hts q hq q' hq'
theorem k4_k5 {p : Str} (h : p ∈ [Str.ofString "", Str.ofString "p", Str.ofString "q", Str.ofString "a"]) : p ∈ K5 := by
  simp only [K5, List.mem_cons, List.not_mem_nil, or_false] at h ⊢
  rcases h with h | h | h | h <;> simp [h]
end
section
open PySem.Calls

theorem nmT {P : Prop} {h₀ h : Heap} {L D : Addr} {p u : Str} {tp tu : Tok} {x1 x2 y : Addr × Obj} {g3 : Obj → Led} {a b : Int} {ta tb : Tok} {n : Nat} (N : News h₀ L h ((D, ({ cls := .type "tuple", data := .seq #[.str p tp, .str u tu] } : Obj)) :: x1 :: x2 :: y :: g3 (srcObj a b ta tb n)))
    (k : ∀ D' p' tp' u' tu' a' b' ta' tb' n', D' = D → p' = p → tp' = tp → u' = u → tu' = tu → a' = a → b' = b → ta' = ta → tb' = tb → n' = n → P) : P := k _ _ _ _ _ _ _ _ _ _ rfl rfl rfl rfl rfl rfl rfl rfl rfl rfl
theorem WJ.sub1 {x t r x1 x2 : Addr × Obj} {rl nl : Addr} {vs ns : List Value} {nr nn : Nat} {N : List NR} {tl : Led} {f : Led} : ∀ q ∈ x :: treeL rl nl vs ns nr nn N (r :: ((t :: tl) ++ f)), q ∈ t :: x1 :: x2 :: x :: treeL rl nl vs ns nr nn N (r :: (tl ++ f)) := by
  refine sub_cons (.tail _ (.tail _ (.tail _ (.head _)))) fun q hq => ?_
  rcases List.mem_cons.mp hq with rfl | hq
  · exact .tail _ (.tail _ (.tail _ (.tail _ (.head _))))
  rcases List.mem_cons.mp hq with rfl | hq
  · exact .tail _ (.tail _ (.tail _ (.tail _ (.tail _ (.head _)))))
  rcases List.mem_append.mp hq with hq | hq
  · exact .tail _ (.tail _ (.tail _ (.tail _ (.tail _ (.tail _ (List.mem_append_left _ hq))))))
  rcases List.mem_cons.mp hq with rfl | hq
  · exact .tail _ (.tail _ (.tail _ (.tail _ (treeL_rest (.head _)))))
  rcases List.mem_append.mp hq with hq | hq
  · rcases List.mem_cons.mp hq with rfl | hq
    · exact .head _
    · exact .tail _ (.tail _ (.tail _ (.tail _ (treeL_rest (.tail _ (List.mem_append_left _ hq))))))
  · exact .tail _ (.tail _ (.tail _ (.tail _ (treeL_rest (.tail _ (List.mem_append_right _ hq))))))
theorem WJ.off2 {src rw tup : Addr} {rF : Obj → Led} {o3 o4 ot : Obj} {tl : Led} (hU : UpdF src o3 (rF o3) rF) (hoff : ∀ p ∈ tl ++ rF o3, p.1 ≠ rw) (t1 : tup ≠ rw) : ∀ p ∈ ((tup, ot) :: tl) ++ rF o4, p.1 ≠ rw := by
  intro q hq
  rcases List.mem_append.mp hq with hq | hq
  · rcases List.mem_cons.mp hq with rfl | hq
    · exact t1
    · exact hoff q (List.mem_append_left _ hq)
  · obtain ⟨q', hq', e⟩ := UpdF.fst hU _ q hq
    rw [← e]; exact hoff q' (List.mem_append_right _ hq')
end
section
open PySem.Calls

theorem WJ.base {w : World} {tr rl el nl td ed ce rw src : Addr} {o o0 : Obj} {g rF : Obj → Led} {kt : Tok} {nt ne : Nat} {es : List DictEntry} {te : Tok} {pe ue : Str} {oc orw : Obj} {led tl : Led} {vs ns : List Value} {nr nn : Nat} {M : List NR} {X : Prop} {l' : Addr}
    (hrF : rF = fun o' => (tr, instObj 288 td) :: (td, dictOf [ent w (Str.ofString "rows") kt (.ref rl)] nt) :: (el, instObj 99 ed) :: (ed, dictOf es ne) :: (ce, oc) :: g o')
    (hes : NodeEs w es (.str (Str.ofString "element") te) pe ue (.ref nl)) (IT : TI w tr rl el nl vs ns M ((rw, orw) :: (tl ++ rF o))) (hts : ∀ p ∈ tl, ∀ q ∈ rF o, p.1 ≠ q.1) (hoff : ∀ p ∈ tl ++ rF o, p.1 ≠ rw)
    (U : UpdF src o0 led g) (l0 : ∀ p ∈ led, p.1 < l') (hce : ce = l' + 1) (h1 : ce < td ∧ X) (h2 : td < tr) (h3 : tr < rl) (h4 : rl < ed) (h5 : ed < el) :
    ∃ base, base = treeL rl nl vs ns nr nn M ((rw, orw) :: (tl ++ ((tr, instObj 288 td) :: (td, dictOf [ent w (Str.ofString "rows") kt (.ref rl)] nt) :: (el, instObj 99 ed) :: (ed, dictOf es ne) :: g o))) ∧ (∀ p ∈ base, p.1 ≠ ce) ∧
      TI w tr rl el nl vs ns M ((rw, orw) :: (tl ++ ((tr, instObj 288 td) :: (td, dictOf [ent w (Str.ofString "rows") kt (.ref rl)] nt) :: (el, instObj 99 ed) :: (ed, dictOf es ne) :: g o))) ∧
      (∀ p ∈ (ce, oc) :: base, p ∈ treeL rl nl vs ns nr nn M ((rw, orw) :: (tl ++ rF o))) := by
  subst hrF
  have hc : (ce, oc) ∈ (rw, orw) :: (tl ++ (tr, instObj 288 td) :: (td, dictOf [ent w (Str.ofString "rows") kt (.ref rl)] nt) :: (el, instObj 99 ed) :: (ed, dictOf es ne) :: (ce, oc) :: g o) :=
    .tail _ (List.mem_append_right _ (.tail _ (.tail _ (.tail _ (.tail _ (.head _))))))
  have hc2 : (ce, oc) ∈ (tr, instObj 288 td) :: (td, dictOf [ent w (Str.ofString "rows") kt (.ref rl)] nt) :: (el, instObj 99 ed) :: (ed, dictOf es ne) :: (ce, oc) :: g o := .tail _ (.tail _ (.tail _ (.tail _ (.head _))))
  refine ⟨_, rfl, ?_, ?_, ?_⟩
  · intro p hp
    rcases List.mem_cons.mp hp with rfl | hp
    · exact Ne.symm (IT.hr _ (List.mem_append_right _ hc))
    rcases List.mem_cons.mp hp with rfl | hp
    · exact Ne.symm (IT.hn _ (List.mem_append_right _ hc))
    rcases List.mem_append.mp hp with hp | hp
    · exact IT.ap p hp _ hc
    rcases List.mem_cons.mp hp with rfl | hp
    · exact Ne.symm (hoff (ce, oc) (List.mem_append_right _ hc2))
    rcases List.mem_append.mp hp with hp | hp
    · exact hts p hp _ hc2
    have d1 := Nat.lt_trans h1.1 h2
    have d2 := Nat.lt_trans d1 (Nat.lt_trans h3 h4)
    rcases List.mem_cons.mp hp with rfl | hp
    · exact Nat.ne_of_gt d1
    rcases List.mem_cons.mp hp with rfl | hp
    · exact Nat.ne_of_gt h1.1
    rcases List.mem_cons.mp hp with rfl | hp
    · exact Nat.ne_of_gt (Nat.lt_trans d2 h5)
    rcases List.mem_cons.mp hp with rfl | hp
    · exact Nat.ne_of_gt d2
    obtain ⟨q', hq', e⟩ := UpdF.fst U _ p hp
    rw [← e, hce]
    exact Nat.ne_of_lt (Nat.lt_succ_of_lt (l0 q' hq'))
  · refine IT.chg ⟨⟨td, kt, nt, .tail _ (List.mem_append_right _ (.head _)), .tail _ (List.mem_append_right _ (.tail _ (.head _)))⟩, ed, es, ne, te, pe, ue, .tail _ (List.mem_append_right _ (.tail _ (.tail _ (.head _)))), .tail _ (List.mem_append_right _ (.tail _ (.tail _ (.tail _ (.head _))))), hes⟩ fun q hq => ⟨q, ?_, rfl⟩
    rcases List.mem_cons.mp hq with rfl | hq
    · exact .head _
    rcases List.mem_append.mp hq with hq | hq
    · exact .tail _ (List.mem_append_left _ hq)
    refine .tail _ (List.mem_append_right _ ?_)
    rcases List.mem_cons.mp hq with rfl | hq
    · exact .head _
    rcases List.mem_cons.mp hq with rfl | hq
    · exact .tail _ (.head _)
    rcases List.mem_cons.mp hq with rfl | hq
    · exact .tail _ (.tail _ (.head _))
    rcases List.mem_cons.mp hq with rfl | hq
    · exact .tail _ (.tail _ (.tail _ (.head _)))
    exact .tail _ (.tail _ (.tail _ (.tail _ (.tail _ hq))))
  · intro q hq
    rcases List.mem_cons.mp hq with rfl | hq
    · exact treeL_rest hc
    rcases List.mem_cons.mp hq with rfl | hq
    · exact .head _
    rcases List.mem_cons.mp hq with rfl | hq
    · exact .tail _ (.head _)
    refine .tail _ (.tail _ ?_)
    rcases List.mem_append.mp hq with hq | hq
    · exact List.mem_append_left _ hq
    refine List.mem_append_right _ ?_
    rcases List.mem_cons.mp hq with rfl | hq
    · exact .head _
    refine .tail _ ?_
    rcases List.mem_append.mp hq with hq | hq
    · exact List.mem_append_left _ hq
    refine List.mem_append_right _ ?_
    rcases List.mem_cons.mp hq with rfl | hq
    · exact .head _
    rcases List.mem_cons.mp hq with rfl | hq
    · exact .tail _ (.head _)
    rcases List.mem_cons.mp hq with rfl | hq
    · exact .tail _ (.tail _ (.head _))
    rcases List.mem_cons.mp hq with rfl | hq
    · exact .tail _ (.tail _ (.tail _ (.head _)))
    exact .tail _ (.tail _ (.tail _ (.tail _ (.tail _ hq))))
end
section
open PyProof.V PySem.Spec
open PySem.Calls
section
variable {prog : Program} {w : World} {A : Around} {E : Value → Shared → Prop} {s : Shared} {a b : Addr} {xs : List Value} {v : Value} {Q : Value → Shared → Prop}
theorem ne_nil (ha : s.heap.IsList a ([] : List Value).toArray) (hb : s.heap.IsList b ([] : List Value).toArray) (hu : A.units < cLine) (h : Q (.bool false) s) :
    wpAny (model prog w) A (compareOp .NotEq (.ref a) (.ref b)) Q E s :=
  PySem.SeqAt.RcNeAt.lists (e := fun _ => true) ha hb rfl hu (fun j h1 _ => absurd h1 (Nat.not_lt_zero _)) prog w E Q h
theorem ne_snoc (ha : s.heap.IsList a (xs ++ [v]).toArray) (hb : s.heap.IsList b ([] : List Value).toArray) (hu : A.units < cLine) (h : Q (.bool true) s) :
    wpAny (model prog w) A (compareOp .NotEq (.ref a) (.ref b)) Q E s :=
  PySem.SeqAt.RcNeAt.lists_lengths ha hb (by simp) hu prog w E Q h
end
end
section
open PySem.Calls
theorem strs_snoc {y : Value} {ys : List Value} {ss : List Str} (h : StrsAre (ys ++ [y]) ss) : ∃ ss' x t, y = .str x t ∧ ss = ss' ++ [x] := by
  induction ys generalizing ss with
  | nil =>
    cases h with
    | cons x t h' => cases h'; exact ⟨[], x, t, rfl, rfl⟩
  | cons z ys ih =>
    cases h with
    | cons x t h' =>
      obtain ⟨ss', x', t', e1, e2⟩ := ih h'
      exact ⟨x :: ss', x', t', e1, by rw [e2]; rfl⟩
theorem strs_nil {ss : List Str} (h : StrsAre [] ss) : ss = [] := by cases h; rfl
theorem uri_nil {rows cs : Prs} {p : Str} (h : sel p rows = []) : uriOf rows cs p = (lk cs p).getD (Str.ofString "") := if_pos h
theorem uri_snoc {rows cs : Prs} {p x : Str} {ss : List Str} (h : sel p rows = ss ++ [x]) : uriOf rows cs p = x := by
  unfold uriOf
  rw [if_neg (by rw [h]; simp), h]
  simp
theorem due_put {rows cs c : Prs} {p u : Str} (e : uriOf rows cs p = u) (h : (u != Str.ofString "") = true) : dueStep rows cs c p = put c p u := by
  rw [dueStep_eq, e, if_neg (bne_t h)]
theorem due_skip {rows cs c : Prs} {p u : Str} (e : uriOf rows cs p = u) (h : (u != Str.ofString "") = false) : dueStep rows cs c p = c := by
  rw [dueStep_eq, e, if_pos (bne_f h)]
theorem off4 {I lp dd hh ce : Addr} {ol od od' oh oc oc' : Obj} {l : Led} (h : ∀ p ∈ (lp, ol) :: (dd, od) :: (hh, oh) :: (ce, oc) :: l, p.1 ≠ I) : ∀ p ∈ (lp, ol) :: (dd, od') :: (hh, oh) :: (ce, oc') :: l, p.1 ≠ I := by
  intro p hp
  rcases List.mem_cons.mp hp with rfl | hp
  · exact h _ (.head _)
  rcases List.mem_cons.mp hp with rfl | hp
  · exact h (dd, od) (.tail _ (.head _))
  rcases List.mem_cons.mp hp with rfl | hp
  · exact h (hh, oh) (.tail _ (.tail _ (.head _)))
  rcases List.mem_cons.mp hp with rfl | hp
  · exact h (ce, oc) (.tail _ (.tail _ (.tail _ (.head _))))
  exact h p (.tail _ (.tail _ (.tail _ (.tail _ hp))))
theorem updD {I lp dd hh ce : Addr} {it ol od oh oc : Obj} {base : Led} (h1 : I ≠ dd) (h2 : dd < lp) (h3 : hh < dd) (h4 : ce < hh) (hb : ∀ p ∈ base, p.1 < hh) :
    UpdF dd od ((I, it) :: (lp, ol) :: (dd, od) :: (hh, oh) :: (ce, oc) :: base) (fun o' => (I, it) :: (lp, ol) :: (dd, o') :: (hh, oh) :: (ce, oc) :: base) := by
  refine .tail h1 (.tail (Nat.ne_of_gt h2) (.head fun p hp => ?_))
  rcases List.mem_cons.mp hp with rfl | hp
  · exact Nat.ne_of_lt h3
  rcases List.mem_cons.mp hp with rfl | hp
  · exact Nat.ne_of_lt (Nat.lt_trans h4 h3)
  · exact Nat.ne_of_lt (Nat.lt_trans (hb p hp) h3)
end
section
theorem off_XPl : True := by
  w_top off
  trivial
open PySem.Calls
theorem isList_up {h₀ h : Heap} {L a : Addr} {m : Str → Option Value} {vs : Array Value} (F : Fr h₀ L h m) (hl : h₀.IsList a vs) : h.IsList a vs := by
  obtain ⟨o, ho, r⟩ := hl
  exact ⟨o, F.keep _ _ ho, r⟩
theorem pool_use {w : World} {sc : Addr} {vals : List Value} {xs : List Int} {mean : ExcName → Option Value} {mg mb : Str → Option Value} {dp un : Nat} {gd : Option (List Code)} {cn : Str} {cs : Scope} {a : Addr} {ccd : Value} {cl : List (Str × Addr)} {outer : List Env} {A₀ : Around} {base h₀ : Heap} {L : Addr} {m : Str → Option Value} {s : Shared} {Q E : Value → Shared → Prop} {led : Led}
    (hL : h₀.IsList sc vals.toArray) (hI : IntsAre vals xs) (hlen : xs.length ≤ 63)
    (B : Below A₀ base outer h₀) (F : Fr h₀ L s.heap m) (X : (hd.heap_39 w.params).In h₀) (N : News h₀ L s.heap led) (T : Top VW LO mean mg mb h₀) (hk : cs.kind = .function) (hdp : dp + 1 < recursionLimit) (hun : un + 8 < cLine)
    (hret : ∀ src a' b' ta' tb' n' h' tk', Fr h₀ L h' m → News h₀ L h' ((src, srcObj a' b' ta' tb' n') :: led) → (∀ p ∈ led, p.1 < src) → Src a' b' → Q (.ref src) { s with heap := h', toks := tk' }) :
    wpAny (model PR w) (ktrTop dp un gd cn cs L a ccd cl outer) (call (.ref 299) [.ref sc]) Q E s := by
  have : (fun (_ : OpenLaw) (_ : Params → Frag) => True) PySem.Challenge.rw_xm0663_01 hd.heap_39 := by (k_fill; trivial)
  have hsz : (vals.length : Int) = xs.length := by
    have : vals.length = xs.length := by
      clear hL hlen
      induction hI with
      | nil => rfl
      | cons _ _ _ ih => simp [ih]
    rw [this]
  obtain ⟨k, ek⟩ : ∃ k : Int, (vals.length : Int) = k := ⟨_, rfl⟩
  have hk0 : 0 ≤ k := by omega
  have hk63 : k ≤ 63 := by omega
  refine wpAny_call ?_
  k_dflt cell_enter
  show let A₁ : Around := _; wpAny _ A₁ _ _ _ _
  intro A₁
  show let e₁ : Env := _; wpAny _ _ (execs _ e₁) _ _ _
  intro e₁
  repeat' ((fail_if_success (with_reducible show wpAny _ _ (subscriptTail _ _ _ _) _ _ _)); (first | (k_unfold; (try dsimp only)) | (k_end; wrow_close) | ((with_reducible show wpAny _ _ (call (Value.builtin "len") _) _ _ _); k_here; k_dflt (refine kun_lenL (isList_up (by assumption) (isList_up (by assumption) (by assumption))) (by simpa using (by assumption : ((_ : List Value).length : Int) = _)) (by omega) ?_)) | (walk1 <;> (try ((with_reducible show wpAny _ _ (exec _ _) _ _ _); k_fold))) | (dsimp only; walk1) | (leave1; (try dsimp only))))
  · obtain ⟨x0, t0, hx0⟩ : ∃ x t, vals[(0 : Int).toNat]? = some (.int x t) := by
      cases hI with
      | nil => simp at ek; omega
      | cons x t _ => exact ⟨x, t, rfl⟩
    refine item_led (isList_up (by assumption) (isList_up (by assumption) hL)) (by decide) (by decide) hx0 ?_
    repeat' (first | (k_unfold; (try dsimp only)) | (k_end; wrow_close) | ((with_reducible show wpAny _ _ (call (Value.builtin "len") _) _ _ _); k_here; k_dflt (refine kun_lenL (isList_up (by assumption) (isList_up (by assumption) (by assumption))) (by simpa using (by assumption : ((_ : List Value).length : Int) = _)) (by omega) ?_)) | (walk1 <;> (try ((with_reducible show wpAny _ _ (exec _ _) _ _ _); k_fold))) | (dsimp only; walk1) | (leave1; (try dsimp only)))
    all_goals (refine hret _ _ _ _ _ _ _ _ (by k_asm) (by k_asm) (by assumption) ⟨?_, Int.fmod_nonneg_of_pos _ (by decide), Int.fmod_lt_of_pos _ (by decide)⟩)
    all_goals omega
  · exact hret _ _ _ _ _ _ _ _ (by k_asm) (by k_asm) (by assumption) ⟨by omega, Int.fmod_nonneg_of_pos _ (by decide), Int.fmod_lt_of_pos _ (by decide)⟩
end
section
open AutoSeq1 (wpAny_loadPart')
open PySem.Calls
/-- equal in this model -/
def EqIn (w : World) (A : Around) (s : Shared) (y x : Value) (b : Bool) : Prop :=
  ∀ (E : Value → Shared → Prop) (Q : Bool → Shared → Prop), Q b s → wpAny (model PR w) A (eqBool y x) Q E s
theorem tup2_ne (w : World) (l b : Addr) (x1 x2 y1 y2 : Value) (n n2 : Nat) :
    MeetsIn PR w (Builtin.«tuple.__ne__» ⟨[.ref l, .ref b], []⟩)
      (fun A R s => s.heap.get? l = some { cls := .type "tuple", data := .seq #[x1, x2] n } ∧ s.heap.get? b = some { cls := .type "tuple", data := .seq #[y1, y2] n2 } ∧
        EqIn w A.in1 s x1 y1 true ∧ EqIn w A.in1 s x2 y2 true ∧ R (.ok (.ret (.bool false))) s) :=
  MeetsIn.of_wp fun A R s h => by
    obtain ⟨hp, g, d, tk, os⟩ := s
    obtain ⟨hl, hb, e1, e2, h⟩ := h
    have f2 := AutoSeq1.sub_tuple_tuple
    wp_walk using wpAny_loadPart' hl, wpAny_loadPart' hb, wpAny_forIn_list _ (fun rest b s' => b.1 = none ∧ s' = ⟨hp, g, d, tk, os⟩ ∧ (rest = [(x1, y1), (x2, y2)] ∨ rest = [(x2, y2)] ∨ rest = [])) _
    case turn =>
      rintro ⟨y, x⟩ rest b s' ⟨hb', rfl, hr⟩
      rcases hr with hr | hr | hr
      · injection hr with q1 q2
        injection q1 with q3 q4
        subst q3; subst q4; subst q2
        refine wpAny_bind (e1 _ _ ?_)
        wp_walk
        exact ⟨rfl, rfl, .inr (.inl rfl)⟩
      · injection hr with q1 q2
        injection q1 with q3 q4
        subst q3; subst q4; subst q2
        refine wpAny_bind (e2 _ _ ?_)
        wp_walk
        exact ⟨rfl, rfl, .inr (.inr rfl)⟩
      · exact nomatch hr
    case fin =>
      rintro ⟨b1, b2⟩ s' ⟨hb', rfl, _⟩
      simp only at hb'
      subst hb'
      wp_walk
      exact ⟨_, rfl, by simpa [Builtin.Tuple.tupleCompareSizes] using h⟩
    case h => exact ⟨rfl, rfl, .inl rfl⟩
/-- two tuples of two, equal item by item -/
theorem tups_ne {w : World} {A : Around} {E : Value → Shared → Prop} {s : Shared} {l b : Addr} {x1 x2 y1 y2 : Value} {n n2 : Nat} {Q : Value → Shared → Prop} (hl : s.heap.get? l = some { cls := .type "tuple", data := .seq #[x1, x2] n }) (hb : s.heap.get? b = some { cls := .type "tuple", data := .seq #[y1, y2] n2 })
    (e1 : EqIn w A.in1 s x1 y1 true) (e2 : EqIn w A.in1 s x2 y2 true) (hu : A.units < cLine) (h : Q (.bool false) s) :
    wpAny (model PR w) A (compareOp .NotEq (.ref l) (.ref b)) Q E s :=
  wpAny_richCompare_same_room (op := .NotEq) ⟨_, hl, rfl⟩ ⟨_, hb, rfl⟩ PySem.F.slot_tuple_ne
    (call_meetsIn PySem.F.slot_tuple_ne ⟨_, hl, rfl⟩ PySem.F.entry_tuple_ne (PySem.F.args_tuple_ne_2 _ _) (tup2_ne w l b x1 x2 y1 y2 n n2) ⟨hl, hb, e1, e2, show Value.bool false ≠ Value.notImplemented ∧ Q (.bool false) s from ⟨(fun x => nomatch x), h⟩⟩) hu
theorem eqIn_tt {w : World} {A : Around} {s : Shared} {h₀ : Heap} {L d1 d2 : Addr} {news : Led} {o1 o2 : Obj} {c : Prs} (N : News h₀ L s.heap news) (h1 : (d1, o1) ∈ news) (h2 : (d2, o2) ∈ news) (hne : d1 ≠ d2)
    (T1 : TT w d1 o1 c) (T2 : TT w d2 o2 c) (hu : A.units < cLine) : EqIn w A s (.ref d1) (.ref d2) true := fun E Q hq => by
  unfold eqBool
  refine wpAny_holding ?_
  refine wpAny_ite_split (fun hab => absurd (by have := eq_of_beq hab; injection this) hne) (fun _ => ?_)
  refine wpAny_bind (tt_eq N h1 h2 T1 T2 hu ?_)
  rw [sameD_of T1.nodup T2.nodup fun _ => rfl]
  exact wpAny_truthy_bool hq
theorem ne_str_same {prog : Program} {w : World} {A : Around} {E : Value → Shared → Prop} {s : Shared} {x y : Str} {t u : Tok} {Q : Value → Shared → Prop} (e : x = y) (h : Q (.bool false) s) :
    wpAny (model prog w) A (compareOp .NotEq (.str x t) (.str y u)) Q E s := by
  subst e
  refine PySem.SeqAt.RcNeAt.str_str x t x u prog w E Q ?_
  rw [beq_self_eq_true]
  exact h
end
section
theorem off_XIW : True := by
  w_top off
  trivial
open PySem.Calls
theorem nmV {w : World} {P : Prop} {h₀ h : Heap} {L rl tr td : Addr} {n0 nt : Nat} {kt : Tok} {l : Led} (N : News h₀ L h ((rl, listOf #[] n0) :: (tr, instObj 288 td) :: (td, dictOf [ent w (Str.ofString "rows") kt (.ref rl)] nt) :: l))
    (k : ∀ rl' tr' td' kt' n', News h₀ L h ((rl', listOf ([] : List Value).toArray n') :: (tr', instObj 288 td') :: (td', dictOf [ent w (Str.ofString "rows") kt' (.ref rl')] nt) :: l) → rl' = rl → tr' = tr → td' = td → kt' = kt → P) : P := k _ _ _ _ _ N rfl rfl rfl rfl
theorem ltV {h₀ h : Heap} {L rl tr td ce : Addr} {o1 o2 o3 o4 : Obj} {l : Led} (N : News h₀ L h ((rl, o1) :: (tr, o2) :: (td, o3) :: (ce, o4) :: l)) (q : tr < rl ∧ td < rl ∧ ce < rl ∧ AllLt rl l) : ∀ p ∈ (tr, o2) :: (td, o3) :: (ce, o4) :: l, p.1 < rl := lt_allLt (l := (tr, o2) :: (td, o3) :: (ce, o4) :: l) q
theorem subV {r a b c x d : Addr × Obj} {l : Led} : ∀ p ∈ r :: c :: x :: d :: l, p ∈ r :: a :: b :: c :: x :: d :: l :=
  sub_cons (.head _) (sub_cons (.tail _ (.tail _ (.tail _ (.head _)))) (sub_cons (.tail _ (.tail _ (.tail _ (.tail _ (.head _))))) (sub_cons (.tail _ (.tail _ (.tail _ (.tail _ (.tail _ (.head _)))))) (fun _ hp => .tail _ (.tail _ (.tail _ (.tail _ (.tail _ (.tail _ hp)))))))))
theorem subV2 {r b3 b2 b1 x2 d2 a1 x1 d1 : Addr × Obj} {l : Led} : ∀ p ∈ r :: b3 :: x2 :: d2 :: a1 :: x1 :: d1 :: l, p ∈ r :: b3 :: b2 :: b1 :: x2 :: d2 :: a1 :: x1 :: d1 :: l :=
  sub_cons (.head _) (sub_cons (.tail _ (.head _)) (sub_cons (.tail _ (.tail _ (.tail _ (.tail _ (.head _))))) (sub_cons (.tail _ (.tail _ (.tail _ (.tail _ (.tail _ (.head _)))))) (sub_cons (.tail _ (.tail _ (.tail _ (.tail _ (.tail _ (.tail _ (.head _))))))) (sub_cons (.tail _ (.tail _ (.tail _ (.tail _ (.tail _ (.tail _ (.tail _ (.head _)))))))) (sub_cons (.tail _ (.tail _ (.tail _ (.tail _ (.tail _ (.tail _ (.tail _ (.tail _ (.head _))))))))) (fun _ hp => .tail _ (.tail _ (.tail _ (.tail _ (.tail _ (.tail _ (.tail _ (.tail _ (.tail _ hp)))))))))))))))
theorem subV3 {r b3 x2 d2 a1 x1 d1 : Addr × Obj} {l : Led} : ∀ p ∈ a1 :: r :: b3 :: x2 :: d2 :: l, p ∈ r :: b3 :: x2 :: d2 :: a1 :: x1 :: d1 :: l :=
  sub_cons (.tail _ (.tail _ (.tail _ (.tail _ (.head _))))) (sub_cons (.head _) (sub_cons (.tail _ (.head _)) (sub_cons (.tail _ (.tail _ (.head _))) (sub_cons (.tail _ (.tail _ (.tail _ (.head _)))) (fun _ hp => .tail _ (.tail _ (.tail _ (.tail _ (.tail _ (.tail _ (.tail _ hp)))))))))))
theorem subV4 {rw rl nl el ed tr td : Addr × Obj} {l : Led} : ∀ p ∈ rl :: nl :: rw :: tr :: td :: el :: ed :: l, p ∈ rw :: rl :: nl :: el :: ed :: tr :: td :: l :=
  sub_cons (.tail _ (.head _)) (sub_cons (.tail _ (.tail _ (.head _))) (sub_cons (.head _) (sub_cons (.tail _ (.tail _ (.tail _ (.tail _ (.tail _ (.head _)))))) (sub_cons (.tail _ (.tail _ (.tail _ (.tail _ (.tail _ (.tail _ (.head _))))))) (sub_cons (.tail _ (.tail _ (.tail _ (.head _)))) (sub_cons (.tail _ (.tail _ (.tail _ (.tail _ (.head _))))) (fun _ hp => .tail _ (.tail _ (.tail _ (.tail _ (.tail _ (.tail _ (.tail _ hp)))))))))))))
theorem WJ.off3 {w : World} {tr rl el nl I9 : Addr} {it : Obj} {vs ns : List Value} {nr nn : Nat} {N : List NR} {rest : Led} (I : TI w tr rl el nl vs ns N ((I9, it) :: rest)) (h : ∀ p ∈ rest, p.1 ≠ I9) : ∀ p ∈ treeL rl nl vs ns nr nn N rest, p.1 ≠ I9 := by
  intro p hp
  rcases List.mem_cons.mp hp with rfl | hp
  · exact Ne.symm (I.hr (I9, it) (List.mem_append_right _ (.head _)))
  rcases List.mem_cons.mp hp with rfl | hp
  · exact Ne.symm (I.hn (I9, it) (List.mem_append_right _ (.head _)))
  rcases List.mem_append.mp hp with hp | hp
  · exact I.ap p hp (I9, it) (.head _)
  · exact h p hp
theorem nmH {P : Prop} {h₀ h : Heap} {L lp D dd hh : Addr} {oD od oh : Obj} {s0 s1 s2 s3 s4 : Str} {t0 t1 t2 t3 t4 : Tok} {ln : Nat} {l : Led} (N : News h₀ L h ((lp, listOf #[.str s0 t0, .str s1 t1, .str s2 t2, .str s3 t3, .str s4 t4] ln) :: (D, oD) :: (dd, od) :: (hh, oh) :: l))
    (k : ∀ vl ln' a1 a2 a3 a4 o2 o3 o4, StrsAre vl [s0, s1, s2, s3, s4] → News h₀ L h ((a1, listOf vl.toArray ln') :: (a2, o2) :: (a3, o3) :: (a4, o4) :: l) → a1 = lp → a2 = D → a3 = dd → a4 = hh → o3 = od → o4 = oh → P) : P :=
  k _ _ _ _ _ _ _ _ _ (.cons _ _ (.cons _ _ (.cons _ _ (.cons _ _ (.cons _ _ .nil))))) N rfl rfl rfl rfl rfl rfl
def P5 : List Str := [Str.ofString "", Str.ofString "a", Str.ofString "p", Str.ofString "q", Str.ofString "xml"]
theorem subH {a D b c ce : Addr × Obj} {l base : Led} (h : ∀ p ∈ ce :: base, p ∈ l) : ∀ p ∈ a :: b :: c :: ce :: base, p ∈ a :: D :: b :: c :: l := by
  intro p hp
  rcases List.mem_cons.mp hp with rfl | hp
  · exact .head _
  rcases List.mem_cons.mp hp with rfl | hp
  · exact .tail _ (.tail _ (.head _))
  rcases List.mem_cons.mp hp with rfl | hp
  · exact .tail _ (.tail _ (.tail _ (.head _)))
  exact .tail _ (.tail _ (.tail _ (.tail _ (h p hp))))
theorem sameD_refl {c : Prs} (hn : (c.map (·.1)).Nodup) : sameD c c = true := sameD_of hn hn fun _ => rfl
theorem subK {rl nl : Addr} {vs ns : List Value} {nr nn : Nat} {N : List NR} {rest : Led} {a d h c : Addr × Obj} : ∀ p ∈ treeL rl nl vs ns nr nn N (d :: h :: rest), p ∈ a :: d :: h :: c :: treeL rl nl vs ns nr nn N rest := by
  intro p hp
  rcases List.mem_cons.mp (treeL_in p hp) with rfl | hp
  · exact .tail _ (.head _)
  rcases List.mem_cons.mp (treeL_in p hp) with rfl | hp
  · exact .tail _ (.tail _ (.head _))
  exact .tail _ (.tail _ (.tail _ (.tail _ hp)))
theorem memK {w : World} {tr rl el nl : Addr} {vs ns : List Value} {N : List NR} {a b c d e f g q : Addr × Obj} {tl l : Led} (I : TI w tr rl el nl vs ns N (a :: b :: c :: (tl ++ (d :: e :: f :: g :: l)))) (h : q ∈ l) : q ∈ a :: b :: c :: (tl ++ (d :: e :: f :: g :: l)) :=
  .tail _ (.tail _ (.tail _ (List.mem_append_right _ (.tail _ (.tail _ (.tail _ (.tail _ h)))))))
theorem nmX {P : Prop} {h₀ h : Heap} {L rw : Addr} {o : Obj} {l : Led} (N : News h₀ L h ((rw, o) :: l)) (k : ∀ rw', News h₀ L h ((rw', o) :: l) → rw' = rw → P) : P := k rw N rfl
def Hid (p : Prop) : Prop := p
theorem within_mc (w : World) {src sd : Addr} {so : Obj} {cs : Prs} {a b : Int} {ta tb : Tok} {n : Nat} {led : Led} {g : Obj → Led} (U : UpdF src (srcObj a b ta tb n) led g) (hs : Src a b)
   (hsd : (sd, so) ∈ led) (hne : sd ≠ src) (Ts : TT w sd so cs) (hG : Good cs) (hl : cs.length ≤ 5) :
    MC w 8 160 332 [.ref src, .ref sd] led
      (fun r news' => ∃ (a' b' : Int) (ta' tb' : Tok) (n' : Nat), r = .bool true ∧ Src a' b' ∧ news' = g (srcObj a' b' ta' tb' n')) := by
  have : (fun (_ : OpenLaw) (_ : Params → Frag) => True) PySem.Challenge.rw_xm0663_01 hd.heap_39 := by (k_fill; trivial)
  have mk0 : Mk 0 := .on 0
  have mk1 : Mk 1 := .on 1
  unfold MC
  intro mean mg mb dp un gd cn cs' ac ccd cl outer A₀ base h₀ L m s Q E B F X N T hk hdp hun hret
  refine wpAny_call ?_
  k_dflt (
    refine' code_defC ?k1 ?k2 ?k3 ?k4 ?k5 ?kA ?kF ?kK ?k6 ?k7 ?k8 ?k9 ?kB ?kD ?_ ?c2 ?c3 ?c4
    (case kA => exact rfl)
    (case kF => exact rfl)
    (case kK => first | exact rfl | assumption)
    (case k1 => k_asm)
    (case k2 => k_asm)
    (case k3 => k_asm)
    (case k4 => k_asm)
    (case k5 => k_asm)
    (case k6 => k_is)
    (case k7 => k_is)
    (case k8 => ktr_room)
    (case k9 => exact BindsTo.of_eq rfl)
    (case kB => exact rfl)
    (case kD => decide +kernel)
    (case c2 => exact rfl)
    (case c3 => exact rfl)
    (case c4 => exact rfl)
    k_whole
    intro g' L' h' tk' cells' FG' F' N' Y' B' X' T' l0
    have hY := PyProof.Rows.CellsAre.one Y'
    obtain ⟨oc0, hE', dc0⟩ := hY
    subst hE'
    clear Y'
    obtain ⟨v00, hv00⟩ : ∃ v0, oc0.data = Data.cell v0 := ⟨_, dc0⟩
    clear dc0
    (try simp only [List.cons_append, List.nil_append] at N')
    (try dsimp only)
    (try k_lift B')
    (try k_fold))
  repeat' ((fail_if_success (with_reducible show wpAny _ _ (call (Value.ref 124) _) _ _ _)); (first | (k_unfold; (try dsimp only)) | (k_end; wrow_close) | ((with_reducible show wpAny _ _ (call (Value.ref _) _) _ _ _); k_here; (with_reducible show wpAny _ _ (call (Value.ref 313) _) _ _ _); k_dflt (refine' MC.use2 (one_mc _ ?U ?hs ?hm ?hne ?hl ?hk) ?_; (case U => first | assumption | k_updF); (case hs => assumption); (case hm => k_mem); (case hne => k_ne); (case hl => exact rfl); (case hk => (constructor <;> (simp only [List.length_cons, List.length_nil]; omega))); intro zr9 znews9 zh9 ztk9 zF9 zN9 zhR9; obtain ⟨zi9, za9, zb9, zta9, ztb9, zn9, zhr9, zhs9, zel9⟩ := zhR9; subst zel9; obtain ⟨zx9, zu9, ze9, zhx9⟩ := pick_strs (by rfl) zhr9; subst ze9; clear zhr9; (try k_sweep); (try dsimp only); (try k_fold))) | ((with_reducible show wpAny _ _ (call (Value.ref _) _) _ _ _); k_here; (with_reducible show wpAny _ _ (call (Value.ref 306) _) _ _ _); k_dflt (refine' MC.use2 (take_use _ ?U ?hs ?ht) ?_; (case U => first | assumption | k_updF); (case hs => assumption); (case ht => first | assumption | decide); intro zr9 znews9 zh9 ztk9 zF9 zN9 zhR9; obtain ⟨zk9, zt9, za9, zb9, zta9, ztb9, zn9, ze9, zhlo9, zhhi9, zhs9, zel9⟩ := zhR9; subst ze9; subst zel9; (try k_sweep); (try dsimp only); (try k_fold))) | ((with_reducible show wpAny _ _ (compareOp CmpOp.NotIn (Value.str _ _) (Value.ref _)) _ _ _); k_here; (with_reducible show wpAny _ _ (compareOp CmpOp.NotIn (Value.str _ _) (Value.ref 82)) _ _ _); k_dflt (refine' topNotIn_tup (K := hd.heap_39 _) (ys := [Str.ofString "root", Str.ofString "element"]) (b := false) ?F ?X ?l ?S ?b ?_; (case F => k_asm); (case X => k_asm); (case l => k_is); (case S => exact .cons _ _ (.cons _ _ .nil)); (case b => decide +kernel))) | (walk1 <;> (try ((with_reducible show wpAny _ _ (exec _ _) _ _ _); k_fold))) | (dsimp only; walk1) | (leave1; (try dsimp only))))
  rename News _ _ _ _ => N0
  rename L' + 1 < _ ∧ AllLt _ led => q1
  rename _ < _ ∧ _ < _ ∧ L' + 1 < _ ∧ AllLt _ led => q3
  refine nmV N0 fun rl tr td kt n0 N1 z1 z2 z3 z4 => ?_
  subst z1; subst z2; subst z3; clear z4
  rename td < tr => q2
  clear N0
  have hlt0 := ltV N1 q3
  refine' MC.use2 (newrow_mc w (.head _) (.tail _ (.head _)) (fun p hp => Nat.ne_of_lt (hlt0 p hp)) (by decide)) ?_ (N := N1)
  intro r9 news9 h9 tk9 F9 N9 hR9
  obtain ⟨k9, t9, x1, d1, a1, a2, a3, es1, e9, hk9, hes1, hlt1, hdx1, hxa1, _, _, el9⟩ := hR9
  have hk0 : k9 = 0 := hk9
  subst hk0
  subst e9
  subst news9
  have N2 := News.sub N9 subV
  clear N9 N1
  have hrd1 : rl < d1 := hlt1 _ (.head _)
  cases hes1
  repeat' ((fail_if_success (with_reducible show wpAny _ _ (call (Value.ref 124) _) _ _ _)); (first | (k_unfold; (try dsimp only)) | (k_end; wrow_close) | ((with_reducible show wpAny _ _ (call (Value.ref _) _) _ _ _); k_here; (with_reducible show wpAny _ _ (call (Value.ref 313) _) _ _ _); k_dflt (refine' MC.use2 (one_mc _ ?U ?hs ?hm ?hne ?hl ?hk) ?_; (case U => first | assumption | k_updF); (case hs => assumption); (case hm => k_mem); (case hne => k_ne); (case hl => exact rfl); (case hk => (constructor <;> (simp only [List.length_cons, List.length_nil]; omega))); intro zr9 znews9 zh9 ztk9 zF9 zN9 zhR9; obtain ⟨zi9, za9, zb9, zta9, ztb9, zn9, zhr9, zhs9, zel9⟩ := zhR9; subst zel9; obtain ⟨zx9, zu9, ze9, zhx9⟩ := pick_strs (by rfl) zhr9; subst ze9; clear zhr9; (try k_sweep); (try dsimp only); (try k_fold))) | ((with_reducible show wpAny _ _ (call (Value.ref _) _) _ _ _); k_here; (with_reducible show wpAny _ _ (call (Value.ref 306) _) _ _ _); k_dflt (refine' MC.use2 (take_use _ ?U ?hs ?ht) ?_; (case U => first | assumption | k_updF); (case hs => assumption); (case ht => first | assumption | decide); intro zr9 znews9 zh9 ztk9 zF9 zN9 zhR9; obtain ⟨zk9, zt9, za9, zb9, zta9, ztb9, zn9, ze9, zhlo9, zhhi9, zhs9, zel9⟩ := zhR9; subst ze9; subst zel9; (try k_sweep); (try dsimp only); (try k_fold))) | ((with_reducible show wpAny _ _ (compareOp CmpOp.NotIn (Value.str _ _) (Value.ref _)) _ _ _); k_here; (with_reducible show wpAny _ _ (compareOp CmpOp.NotIn (Value.str _ _) (Value.ref 82)) _ _ _); k_dflt (refine' topNotIn_tup (K := hd.heap_39 _) (ys := [Str.ofString "root", Str.ofString "element"]) (b := false) ?F ?X ?l ?S ?b ?_; (case F => k_asm); (case X => k_asm); (case l => k_is); (case S => exact .cons _ _ (.cons _ _ .nil)); (case b => decide +kernel))) | (walk1 <;> (try ((with_reducible show wpAny _ _ (exec _ _) _ _ _); k_fold))) | (dsimp only; walk1) | (leave1; (try dsimp only))))
  rename News _ _ _ _ => N3
  refine' MC.use2 (newrow_mc w (.tail _ (.tail _ (.tail _ (.head _)))) (.tail _ (.tail _ (.tail _ (.tail _ (.head _))))) (fun p hp => ?hr) (Nat.le_of_ble_eq_true rfl)) ?_ (N := N3)
  case hr =>
    rcases List.mem_cons.mp hp with rfl | hp
    · exact Nat.ne_of_gt (Nat.lt_trans hrd1 (Nat.lt_trans hdx1 hxa1))
    rcases List.mem_cons.mp hp with rfl | hp
    · exact Nat.ne_of_gt (Nat.lt_trans hrd1 hdx1)
    rcases List.mem_cons.mp hp with rfl | hp
    · exact Nat.ne_of_gt hrd1
    exact Nat.ne_of_lt (hlt0 p hp)
  intro r9 news9 h9 tk9 F9 N9 hR9
  obtain ⟨k9, t9, el, ed, b1, b2, nl, es2, e9, hk9, hes2, hlt2, hdx2, hxb1, hb12, hb23, el9⟩ := hR9
  have hk1 : k9 = 1 := hk9
  subst hk1
  subst e9
  subst news9
  have N4 := News.sub N9 subV2
  clear N9 N3
  repeat' ((fail_if_success (with_reducible show wpAny _ _ (call (Value.builtin "list.append") _) _ _ _)); (first | (k_unfold; (try dsimp only)) | (k_end; wrow_close) | ((with_reducible show wpAny _ _ (call (Value.ref _) _) _ _ _); k_here; (with_reducible show wpAny _ _ (call (Value.ref 313) _) _ _ _); k_dflt (refine' MC.use2 (one_mc _ ?U ?hs ?hm ?hne ?hl ?hk) ?_; (case U => first | assumption | k_updF); (case hs => assumption); (case hm => k_mem); (case hne => k_ne); (case hl => exact rfl); (case hk => (constructor <;> (simp only [List.length_cons, List.length_nil]; omega))); intro zr9 znews9 zh9 ztk9 zF9 zN9 zhR9; obtain ⟨zi9, za9, zb9, zta9, ztb9, zn9, zhr9, zhs9, zel9⟩ := zhR9; subst zel9; obtain ⟨zx9, zu9, ze9, zhx9⟩ := pick_strs (by rfl) zhr9; subst ze9; clear zhr9; (try k_sweep); (try dsimp only); (try k_fold))) | ((with_reducible show wpAny _ _ (call (Value.ref _) _) _ _ _); k_here; (with_reducible show wpAny _ _ (call (Value.ref 306) _) _ _ _); k_dflt (refine' MC.use2 (take_use _ ?U ?hs ?ht) ?_; (case U => first | assumption | k_updF); (case hs => assumption); (case ht => first | assumption | decide); intro zr9 znews9 zh9 ztk9 zF9 zN9 zhR9; obtain ⟨zk9, zt9, za9, zb9, zta9, ztb9, zn9, ze9, zhlo9, zhhi9, zhs9, zel9⟩ := zhR9; subst ze9; subst zel9; (try k_sweep); (try dsimp only); (try k_fold))) | ((with_reducible show wpAny _ _ (compareOp CmpOp.NotIn (Value.str _ _) (Value.ref _)) _ _ _); k_here; (with_reducible show wpAny _ _ (compareOp CmpOp.NotIn (Value.str _ _) (Value.ref 82)) _ _ _); k_dflt (refine' topNotIn_tup (K := hd.heap_39 _) (ys := [Str.ofString "root", Str.ofString "element"]) (b := false) ?F ?X ?l ?S ?b ?_; (case F => k_asm); (case X => k_asm); (case l => k_is); (case S => exact .cons _ _ (.cons _ _ .nil)); (case b => decide +kernel))) | (walk1 <;> (try ((with_reducible show wpAny _ _ (exec _ _) _ _ _); k_fold))) | (dsimp only; walk1) | (leave1; (try dsimp only))))
  (try k_unfold)
  (try dsimp only)
  rename News _ _ _ _ => N5
  have N6 := News.sub N5 subV3
  have hae : a1 < ed := hlt2 _ (.tail _ (.head _))
  have hra : rl < a1 := Nat.lt_trans hrd1 (Nat.lt_trans hdx1 hxa1)
  have hen : el < nl := Nat.lt_trans hxb1 (Nat.lt_trans hb12 hb23)
  have hre : rl < ed := hlt2 _ (.head _)
  refine append_L (by assumption) N6 (.head fun p hp => ?_) (Nat.zero_le _) fun h6 F6 N7 => ?_
  · rcases List.mem_cons.mp hp with rfl | hp
    · exact Nat.ne_of_lt hra
    rcases List.mem_cons.mp hp with rfl | hp
    · exact Nat.ne_of_gt (Nat.lt_trans hae (Nat.lt_trans hdx2 hen))
    rcases List.mem_cons.mp hp with rfl | hp
    · exact Nat.ne_of_gt (Nat.lt_trans hae hdx2)
    rcases List.mem_cons.mp hp with rfl | hp
    · exact Nat.ne_of_gt hae
    · exact Nat.ne_of_lt (Nat.lt_trans (hlt0 p hp) hra)
  have N8 := News.sub N7 (fun p hp => .tail _ hp)
  clear N5 N6 N7
  repeat' ((fail_if_success (with_reducible show wpAny _ _ (call (Value.ref 306) _) _ _ _)); (first | (k_unfold; (try dsimp only)) | (k_end; wrow_close) | ((with_reducible show wpAny _ _ (call (Value.ref _) _) _ _ _); k_here; (with_reducible show wpAny _ _ (call (Value.ref 313) _) _ _ _); k_dflt (refine' MC.use2 (one_mc _ ?U ?hs ?hm ?hne ?hl ?hk) ?_; (case U => first | assumption | k_updF); (case hs => assumption); (case hm => k_mem); (case hne => k_ne); (case hl => exact rfl); (case hk => (constructor <;> (simp only [List.length_cons, List.length_nil]; omega))); intro zr9 znews9 zh9 ztk9 zF9 zN9 zhR9; obtain ⟨zi9, za9, zb9, zta9, ztb9, zn9, zhr9, zhs9, zel9⟩ := zhR9; subst zel9; obtain ⟨zx9, zu9, ze9, zhx9⟩ := pick_strs (by rfl) zhr9; subst ze9; clear zhr9; (try k_sweep); (try dsimp only); (try k_fold))) | ((with_reducible show wpAny _ _ (call (Value.ref _) _) _ _ _); k_here; (with_reducible show wpAny _ _ (call (Value.ref 306) _) _ _ _); k_dflt (refine' MC.use2 (take_use _ ?U ?hs ?ht) ?_; (case U => first | assumption | k_updF); (case hs => assumption); (case ht => first | assumption | decide); intro zr9 znews9 zh9 ztk9 zF9 zN9 zhR9; obtain ⟨zk9, zt9, za9, zb9, zta9, ztb9, zn9, ze9, zhlo9, zhhi9, zhs9, zel9⟩ := zhR9; subst ze9; subst zel9; (try k_sweep); (try dsimp only); (try k_fold))) | ((with_reducible show wpAny _ _ (compareOp CmpOp.NotIn (Value.str _ _) (Value.ref _)) _ _ _); k_here; (with_reducible show wpAny _ _ (compareOp CmpOp.NotIn (Value.str _ _) (Value.ref 82)) _ _ _); k_dflt (refine' topNotIn_tup (K := hd.heap_39 _) (ys := [Str.ofString "root", Str.ofString "element"]) (b := false) ?F ?X ?l ?S ?b ?_; (case F => k_asm); (case X => k_asm); (case l => k_is); (case S => exact .cons _ _ (.cons _ _ .nil)); (case b => decide +kernel))) | (walk1 <;> (try ((with_reducible show wpAny _ _ (exec _ _) _ _ _); k_fold))) | (dsimp only; walk1) | (leave1; (try dsimp only))))
  (try k_unfold)
  (try dsimp only)
  rename News _ _ _ _ => N9
  rename rl < _ ∧ nl < _ ∧ _ => q7
  refine nmX N9 fun rw N10 z1 => ?_
  subst z1
  have N11 := News.sub N10 subV4
  obtain ⟨rF, hrF, hU0, hfix, hrw, nsrc, I1, N2⟩ := within_start N11 hes2.es U (fun p hp => Nat.lt_succ_of_lt (l0 p hp)) q1 q2 q3.1 hre hdx2 hen ⟨q7.2.1, trivial⟩
  clear N9 N10 N11
  have hU1 := I1.updF (nr := n0 + 1 + 1) (nn := 0) (.tail nsrc hU0)
  obtain ⟨gt, hgt⟩ : ∃ gt : Obj → Led, gt = _ ∧ UpdF src (srcObj a b ta tb n) _ gt := ⟨_, rfl, hU1⟩
  clear hU1
  obtain ⟨hgt, hU2⟩ := hgt
  repeat' ((fail_if_success (with_reducible show wpAny _ _ (call (Value.type _) [Value.int _ _]) _ _ _)); (first | (k_unfold; (try dsimp only)) | (k_end; wrow_close) | ((with_reducible show wpAny _ _ (call (Value.ref _) _) _ _ _); k_here; (with_reducible show wpAny _ _ (call (Value.ref 313) _) _ _ _); k_dflt (refine' MC.use2 (one_mc _ ?U ?hs ?hm ?hne ?hl ?hk) ?_; (case U => first | assumption | k_updF); (case hs => assumption); (case hm => k_mem); (case hne => k_ne); (case hl => exact rfl); (case hk => (constructor <;> (simp only [List.length_cons, List.length_nil]; omega))); intro zr9 znews9 zh9 ztk9 zF9 zN9 zhR9; obtain ⟨zi9, za9, zb9, zta9, ztb9, zn9, zhr9, zhs9, zel9⟩ := zhR9; subst zel9; obtain ⟨zx9, zu9, ze9, zhx9⟩ := pick_strs (by rfl) zhr9; subst ze9; clear zhr9; (try k_sweep); (try dsimp only); (try k_fold))) | ((with_reducible show wpAny _ _ (call (Value.ref _) _) _ _ _); k_here; (with_reducible show wpAny _ _ (call (Value.ref 306) _) _ _ _); k_dflt (refine' MC.use2 (take_use _ ?U ?hs ?ht) ?_; (case U => first | assumption | k_updF); (case hs => assumption); (case ht => first | assumption | decide); intro zr9 znews9 zh9 ztk9 zF9 zN9 zhR9; obtain ⟨zk9, zt9, za9, zb9, zta9, ztb9, zn9, ze9, zhlo9, zhhi9, zhs9, zel9⟩ := zhR9; subst ze9; subst zel9; (try k_sweep); (try dsimp only); (try k_fold))) | ((with_reducible show wpAny _ _ (compareOp CmpOp.NotIn (Value.str _ _) (Value.ref _)) _ _ _); k_here; (with_reducible show wpAny _ _ (compareOp CmpOp.NotIn (Value.str _ _) (Value.ref 82)) _ _ _); k_dflt (refine' topNotIn_tup (K := hd.heap_39 _) (ys := [Str.ofString "root", Str.ofString "element"]) (b := false) ?F ?X ?l ?S ?b ?_; (case F => k_asm); (case X => k_asm); (case l => k_is); (case S => exact .cons _ _ (.cons _ _ .nil)); (case b => decide +kernel))) | (walk1 <;> (try ((with_reducible show wpAny _ _ (exec _ _) _ _ _); k_fold))) | (dsimp only; walk1) | (leave1; (try dsimp only))))
  (try k_unfold)
  (try dsimp only)
  rename 0 ≤ _ => h0
  rename _ < (6 : Int) => h6
  rename Src _ _ => hs9
  obtain ⟨n6, e6⟩ := Int.eq_ofNat_of_zero_le h0
  subst e6
  have hw : Hid (n6 < 6) := by have : n6 < 6 := by omega
                               exact this
  clear h0 h6
  repeat' ((fail_if_success (with_reducible show wpAny _ _ (pyIter (Value.ref _)) _ _ _)); (first | (k_unfold; (try dsimp only)) | (k_end; wrow_close) | ((with_reducible show wpAny _ _ (call (Value.ref _) _) _ _ _); k_here; (with_reducible show wpAny _ _ (call (Value.ref 313) _) _ _ _); k_dflt (refine' MC.use2 (one_mc _ ?U ?hs ?hm ?hne ?hl ?hk) ?_; (case U => first | assumption | k_updF); (case hs => assumption); (case hm => k_mem); (case hne => k_ne); (case hl => exact rfl); (case hk => (constructor <;> (simp only [List.length_cons, List.length_nil]; omega))); intro zr9 znews9 zh9 ztk9 zF9 zN9 zhR9; obtain ⟨zi9, za9, zb9, zta9, ztb9, zn9, zhr9, zhs9, zel9⟩ := zhR9; subst zel9; obtain ⟨zx9, zu9, ze9, zhx9⟩ := pick_strs (by rfl) zhr9; subst ze9; clear zhr9; (try k_sweep); (try dsimp only); (try k_fold))) | ((with_reducible show wpAny _ _ (call (Value.ref _) _) _ _ _); k_here; (with_reducible show wpAny _ _ (call (Value.ref 306) _) _ _ _); k_dflt (refine' MC.use2 (take_use _ ?U ?hs ?ht) ?_; (case U => first | assumption | k_updF); (case hs => assumption); (case ht => first | assumption | decide); intro zr9 znews9 zh9 ztk9 zF9 zN9 zhR9; obtain ⟨zk9, zt9, za9, zb9, zta9, ztb9, zn9, ze9, zhlo9, zhhi9, zhs9, zel9⟩ := zhR9; subst ze9; subst zel9; (try k_sweep); (try dsimp only); (try k_fold))) | ((with_reducible show wpAny _ _ (compareOp CmpOp.NotIn (Value.str _ _) (Value.ref _)) _ _ _); k_here; (with_reducible show wpAny _ _ (compareOp CmpOp.NotIn (Value.str _ _) (Value.ref 82)) _ _ _); k_dflt (refine' topNotIn_tup (K := hd.heap_39 _) (ys := [Str.ofString "root", Str.ofString "element"]) (b := false) ?F ?X ?l ?S ?b ?_; (case F => k_asm); (case X => k_asm); (case l => k_is); (case S => exact .cons _ _ (.cons _ _ .nil)); (case b => decide +kernel))) | (walk1 <;> (try ((with_reducible show wpAny _ _ (exec _ _) _ _ _); k_fold))) | (dsimp only; walk1) | (leave1; (try dsimp only))))
  (try k_unfold)
  have hw6 : n6 < 6 := hw
  clear mk0 mk1
  rename IsRange _ _ _ _ _ _ _ _ => hR
  rename Fr _ _ _ _ => F1
  rename News _ _ _ _ => N1
  rw [hgt] at N1
  obtain ⟨hs1, hs2⟩ := range_small hw6
  refine range_inv (n := n6) [] (fun i _ nx => ∃ rows, WJ w src tr rl el nl rw rF i rows nx) (by rfl) hR hs1 hs2 F1 N1 ⟨[], WJ.start hU0 hfix hrw hs9 I1⟩ ?turn ?done
  case turn =>
    intro I9 i u t h tk nx it hi hJ hI F2 N2
    obtain ⟨rows, vs, ns, rv, N, nr, nn, nw, tl, a1, b1, ta1, tb1, n1, IT, hP, hrl, hNl, hps, hK, hs2', hoff, hts, rfl⟩ := hJ
    have hU3 := IT.updF (nr := nr) (nn := nn) (.tail nsrc (UpdF.app (UpdF.again hU0 (srcObj a1 b1 ta1 tb1 n1)) fun p hp => hts p hp _ (UpdF.here (UpdF.again hU0 _))))
    have hm3 : (rw, listOf rv.toArray nw) ∈ treeL rl nl vs ns nr nn N ((rw, listOf rv.toArray nw) :: (tl ++ rF (srcObj a1 b1 ta1 tb1 n1))) := treeL_rest (.head _)
    have hI' := hI
    have hI9 : I9 ≠ src := Ne.symm (UpdF.ne1 hU3 hI)
    obtain ⟨led3, g3, el3, eg3, hU4, hm4, hI4⟩ : ∃ led3 g3, led3 = _ ∧ g3 = _ ∧ UpdF src (srcObj a1 b1 ta1 tb1 n1) led3 g3 ∧ (rw, listOf rv.toArray nw) ∈ led3 ∧ (∀ p ∈ led3, p.1 ≠ I9) := ⟨_, _, rfl, rfl, hU3, hm3, hI⟩
    rw [← el3] at N2
    clear hU3 hm3 hI hR F1 N1 hs9 hw

    have kp4 := fun o => UpdF.keeps hU4 hm4 nsrc o
    have hsr4 := UpdF.here hU4
    repeat' ((fail_if_success (with_reducible show wpAny _ _ (call (Value.builtin "list.append") _) _ _ _)); (first | (k_unfold; (try dsimp only)) | (k_end; wrow_close) | ((with_reducible show wpAny _ _ (newList _) _ _ _); k_here; k_dflt (refine' newList_K ?k1 ?k2 ?_ ?kz; (case k1 => k_asm); (case k2 => k_asm); (case kz => (rw [sizeLine_eq]; simp only [List.length_cons, List.length_nil]; omega)); k_whole); intro zlq zhq zFq zNq zl1; (try k_sweep)) | ((with_reducible show wpAny _ _ (call (Value.ref _) _) _ _ _); k_here; (with_reducible show wpAny _ _ (call (Value.ref 313) _) _ _ _); k_dflt (refine' MC.use2 (one_mc _ ?U ?hs ?hm ?hne ?hl ?hk) ?_; (case U => first | assumption | k_updF); (case hs => assumption); (case hm => k_mem); (case hne => k_ne); (case hl => exact rfl); (case hk => (constructor <;> (simp only [List.length_cons, List.length_nil]; omega))); intro zr9 znews9 zh9 ztk9 zF9 zN9 zhR9; obtain ⟨zi9, za9, zb9, zta9, ztb9, zn9, zhr9, zhs9, zel9⟩ := zhR9; subst zel9; obtain ⟨zx9, zu9, ze9, zhx9⟩ := pick_strs (by rfl) zhr9; subst ze9; clear zhr9; (try k_sweep); (try dsimp only); (try k_fold))) | ((with_reducible show wpAny _ _ (call (Value.ref _) _) _ _ _); k_here; (with_reducible show wpAny _ _ (call (Value.ref 306) _) _ _ _); k_dflt (refine' MC.use2 (take_use _ ?U ?hs ?ht) ?_; (case U => first | assumption | k_updF); (case hs => assumption); (case ht => first | assumption | decide); intro zr9 znews9 zh9 ztk9 zF9 zN9 zhR9; obtain ⟨zk9, zt9, za9, zb9, zta9, ztb9, zn9, ze9, zhlo9, zhhi9, zhs9, zel9⟩ := zhR9; subst ze9; subst zel9; (try k_sweep); (try dsimp only); (try k_fold))) | ((with_reducible show wpAny _ _ (compareOp CmpOp.NotIn (Value.str _ _) (Value.ref _)) _ _ _); k_here; (with_reducible show wpAny _ _ (compareOp CmpOp.NotIn (Value.str _ _) (Value.ref 82)) _ _ _); k_dflt (refine' topNotIn_tup (K := hd.heap_39 _) (ys := [Str.ofString "root", Str.ofString "element"]) (b := false) ?F ?X ?l ?S ?b ?_; (case F => k_asm); (case X => k_asm); (case l => k_is); (case S => exact .cons _ _ (.cons _ _ .nil)); (case b => decide +kernel))) | (walk1 <;> (try ((with_reducible show wpAny _ _ (exec _ _) _ _ _); k_fold))) | (dsimp only; walk1) | (leave1; (try dsimp only))))
    rename Src _ _ => hs4
    rename _ < _ ∧ _ ∧ I9 < _ ∧ AllLt _ _ => l9
    rename News _ _ _ (_ :: _ :: _ :: _ :: g3 _) => N9
    refine nmT N9 fun tup p tp pu tu a4 b4 ta4 tb4 n4 z1 z2 z3 z4 z5 z6 z7 z8 z9 z10 => ?_
    subst z1; subst z2; subst z3; subst z4; subst z5; subst z6; subst z7; subst z8; subst z9; subst z10
    have hp5 : p ∈ K5 := k4_k5 (by assumption)
    have hU0' := UpdF.again hU0 (srcObj a1 b1 ta1 tb1 n1)
    have hlt := lt_allLt l9.2.2.2
    rw [eg3] at N9 hlt
    have N6 := News.sub N9 WJ.sub1
    clear N9
    have ht : ∀ p ∈ treeL rl nl vs ns nr nn N ((rw, listOf rv.toArray nw) :: (tl ++ rF (srcObj a4 b4 ta4 tb4 n4))), p.1 ≠ tup := fun q hq => Nat.ne_of_lt (hlt q hq)
    have t1 : tup ≠ rw := Ne.symm (ht (rw, _) (treeL_rest (.head _)))
    have t2 : ∀ q ∈ rF (srcObj a4 b4 ta4 tb4 n4), tup ≠ q.1 := fun q hq => Ne.symm (ht q (treeL_rest (.tail _ (List.mem_append_right _ hq))))
    have t3 : I9 ≠ rw := fun z => hI' (rw, _) (treeL_rest (.head _)) z.symm
    have IT5 := WJ.mid (ot := ({ cls := .type "tuple", data := .seq #[.str p tp, .str pu tu] } : Obj)) (orw' := listOf rv.toArray nw) IT hU0' hfix ht
    have IT6 := WJ.mid (ot := ({ cls := .type "tuple", data := .seq #[.str p tp, .str pu tu] } : Obj)) (orw' := listOf (rv ++ [Value.ref tup]).toArray (nw + 1)) IT hU0' hfix ht
    have hoff6 := WJ.off2 (o4 := srcObj a4 b4 ta4 tb4 n4) (ot := ({ cls := .type "tuple", data := .seq #[.str p tp, .str pu tu] } : Obj)) hU0' hoff t1
    have hU6 := UpdF.tail (p := (I9, it)) t3 (IT5.updF (nr := nr) (nn := nn) (.head hoff6))
    have hPl := hP.len
    refine append_L (by assumption) N6 hU6 (by omega) fun h6 F6 N7 => ?_
    clear hU6
    obtain ⟨led6, el6, hrw6, htup6, hf6⟩ : ∃ led6, led6 = treeL rl nl vs ns nr nn N ((rw, listOf (rv ++ [Value.ref tup]).toArray (nw + 1)) :: (((tup, ({ cls := .type "tuple", data := .seq #[.str p tp, .str pu tu] } : Obj)) :: tl) ++ rF (srcObj a4 b4 ta4 tb4 n4))) ∧
        (rw, listOf (rv ++ [Value.ref tup]).toArray (nw + 1)) ∈ led6 ∧ (tup, ({ cls := .type "tuple", data := .seq #[.str p tp, .str pu tu] } : Obj)) ∈ led6 ∧ Fix w tr rl el nl led6 := ⟨_, rfl, treeL_rest (.head _), treeL_rest (.tail _ (.head _)), (hfix _).mono fun q hq => treeL_rest (.tail _ (List.mem_append_right _ hq))⟩
    rw [← el6] at N7
    obtain ⟨⟨td6, kt6, nt6, htr6, htd6⟩, _⟩ := hf6
    repeat' ((fail_if_success (with_reducible show wpAny _ _ (subscriptTail _ _ _ (Value.int (-1) _)) _ _ _)); (first | (k_unfold; (try dsimp only)) | (k_end; wrow_close) | ((with_reducible show wpAny _ _ (newList _) _ _ _); k_here; k_dflt (refine' newList_K ?k1 ?k2 ?_ ?kz; (case k1 => k_asm); (case k2 => k_asm); (case kz => (rw [sizeLine_eq]; simp only [List.length_cons, List.length_nil]; omega)); k_whole); intro zlq zhq zFq zNq zl1; (try k_sweep)) | ((with_reducible show wpAny _ _ (call (Value.ref _) _) _ _ _); k_here; (with_reducible show wpAny _ _ (call (Value.ref 313) _) _ _ _); k_dflt (refine' MC.use2 (one_mc _ ?U ?hs ?hm ?hne ?hl ?hk) ?_; (case U => first | assumption | k_updF); (case hs => assumption); (case hm => k_mem); (case hne => k_ne); (case hl => exact rfl); (case hk => (constructor <;> (simp only [List.length_cons, List.length_nil]; omega))); intro zr9 znews9 zh9 ztk9 zF9 zN9 zhR9; obtain ⟨zi9, za9, zb9, zta9, ztb9, zn9, zhr9, zhs9, zel9⟩ := zhR9; subst zel9; obtain ⟨zx9, zu9, ze9, zhx9⟩ := pick_strs (by rfl) zhr9; subst ze9; clear zhr9; (try k_sweep); (try dsimp only); (try k_fold))) | ((with_reducible show wpAny _ _ (call (Value.ref _) _) _ _ _); k_here; (with_reducible show wpAny _ _ (call (Value.ref 306) _) _ _ _); k_dflt (refine' MC.use2 (take_use _ ?U ?hs ?ht) ?_; (case U => first | assumption | k_updF); (case hs => assumption); (case ht => first | assumption | decide); intro zr9 znews9 zh9 ztk9 zF9 zN9 zhR9; obtain ⟨zk9, zt9, za9, zb9, zta9, ztb9, zn9, ze9, zhlo9, zhhi9, zhs9, zel9⟩ := zhR9; subst ze9; subst zel9; (try k_sweep); (try dsimp only); (try k_fold))) | ((with_reducible show wpAny _ _ (compareOp CmpOp.NotIn (Value.str _ _) (Value.ref _)) _ _ _); k_here; (with_reducible show wpAny _ _ (compareOp CmpOp.NotIn (Value.str _ _) (Value.ref 82)) _ _ _); k_dflt (refine' topNotIn_tup (K := hd.heap_39 _) (ys := [Str.ofString "root", Str.ofString "element"]) (b := false) ?F ?X ?l ?S ?b ?_; (case F => k_asm); (case X => k_asm); (case l => k_is); (case S => exact .cons _ _ (.cons _ _ .nil)); (case b => decide +kernel))) | (walk1 <;> (try ((with_reducible show wpAny _ _ (exec _ _) _ _ _); k_fold))) | (dsimp only; walk1) | (leave1; (try dsimp only))))
    refine item_last (News.isList N7 (.tail _ hrw6)) ?_
    repeat' ((fail_if_success (with_reducible show wpAny _ _ (subscriptTail _ _ _ (Value.int (-1) _)) _ _ _)); (first | (k_unfold; (try dsimp only)) | (k_end; wrow_close) | ((with_reducible show wpAny _ _ (newList _) _ _ _); k_here; k_dflt (refine' newList_K ?k1 ?k2 ?_ ?kz; (case k1 => k_asm); (case k2 => k_asm); (case kz => (rw [sizeLine_eq]; simp only [List.length_cons, List.length_nil]; omega)); k_whole); intro zlq zhq zFq zNq zl1; (try k_sweep)) | ((with_reducible show wpAny _ _ (call (Value.ref _) _) _ _ _); k_here; (with_reducible show wpAny _ _ (call (Value.ref 313) _) _ _ _); k_dflt (refine' MC.use2 (one_mc _ ?U ?hs ?hm ?hne ?hl ?hk) ?_; (case U => first | assumption | k_updF); (case hs => assumption); (case hm => k_mem); (case hne => k_ne); (case hl => exact rfl); (case hk => (constructor <;> (simp only [List.length_cons, List.length_nil]; omega))); intro zr9 znews9 zh9 ztk9 zF9 zN9 zhR9; obtain ⟨zi9, za9, zb9, zta9, ztb9, zn9, zhr9, zhs9, zel9⟩ := zhR9; subst zel9; obtain ⟨zx9, zu9, ze9, zhx9⟩ := pick_strs (by rfl) zhr9; subst ze9; clear zhr9; (try k_sweep); (try dsimp only); (try k_fold))) | ((with_reducible show wpAny _ _ (call (Value.ref _) _) _ _ _); k_here; (with_reducible show wpAny _ _ (call (Value.ref 306) _) _ _ _); k_dflt (refine' MC.use2 (take_use _ ?U ?hs ?ht) ?_; (case U => first | assumption | k_updF); (case hs => assumption); (case ht => first | assumption | decide); intro zr9 znews9 zh9 ztk9 zF9 zN9 zhR9; obtain ⟨zk9, zt9, za9, zb9, zta9, ztb9, zn9, ze9, zhlo9, zhhi9, zhs9, zel9⟩ := zhR9; subst ze9; subst zel9; (try k_sweep); (try dsimp only); (try k_fold))) | ((with_reducible show wpAny _ _ (compareOp CmpOp.NotIn (Value.str _ _) (Value.ref _)) _ _ _); k_here; (with_reducible show wpAny _ _ (compareOp CmpOp.NotIn (Value.str _ _) (Value.ref 82)) _ _ _); k_dflt (refine' topNotIn_tup (K := hd.heap_39 _) (ys := [Str.ofString "root", Str.ofString "element"]) (b := false) ?F ?X ?l ?S ?b ?_; (case F => k_asm); (case X => k_asm); (case l => k_is); (case S => exact .cons _ _ (.cons _ _ .nil)); (case b => decide +kernel))) | (walk1 <;> (try ((with_reducible show wpAny _ _ (exec _ _) _ _ _); k_fold))) | (dsimp only; walk1) | (leave1; (try dsimp only))))
    refine item_last (News.isList N7 (.tail _ hrw6)) ?_
    repeat' ((fail_if_success (with_reducible show wpAny _ _ (call (Value.ref 194) _) _ _ _)); (first | (k_unfold; (try dsimp only)) | (k_end; wrow_close) | ((with_reducible show wpAny _ _ (newList _) _ _ _); k_here; k_dflt (refine' newList_K ?k1 ?k2 ?_ ?kz; (case k1 => k_asm); (case k2 => k_asm); (case kz => (rw [sizeLine_eq]; simp only [List.length_cons, List.length_nil]; omega)); k_whole); intro zlq zhq zFq zNq zl1; (try k_sweep)) | ((with_reducible show wpAny _ _ (call (Value.ref _) _) _ _ _); k_here; (with_reducible show wpAny _ _ (call (Value.ref 313) _) _ _ _); k_dflt (refine' MC.use2 (one_mc _ ?U ?hs ?hm ?hne ?hl ?hk) ?_; (case U => first | assumption | k_updF); (case hs => assumption); (case hm => k_mem); (case hne => k_ne); (case hl => exact rfl); (case hk => (constructor <;> (simp only [List.length_cons, List.length_nil]; omega))); intro zr9 znews9 zh9 ztk9 zF9 zN9 zhR9; obtain ⟨zi9, za9, zb9, zta9, ztb9, zn9, zhr9, zhs9, zel9⟩ := zhR9; subst zel9; obtain ⟨zx9, zu9, ze9, zhx9⟩ := pick_strs (by rfl) zhr9; subst ze9; clear zhr9; (try k_sweep); (try dsimp only); (try k_fold))) | ((with_reducible show wpAny _ _ (call (Value.ref _) _) _ _ _); k_here; (with_reducible show wpAny _ _ (call (Value.ref 306) _) _ _ _); k_dflt (refine' MC.use2 (take_use _ ?U ?hs ?ht) ?_; (case U => first | assumption | k_updF); (case hs => assumption); (case ht => first | assumption | decide); intro zr9 znews9 zh9 ztk9 zF9 zN9 zhR9; obtain ⟨zk9, zt9, za9, zb9, zta9, ztb9, zn9, ze9, zhlo9, zhhi9, zhs9, zel9⟩ := zhR9; subst ze9; subst zel9; (try k_sweep); (try dsimp only); (try k_fold))) | ((with_reducible show wpAny _ _ (compareOp CmpOp.NotIn (Value.str _ _) (Value.ref _)) _ _ _); k_here; (with_reducible show wpAny _ _ (compareOp CmpOp.NotIn (Value.str _ _) (Value.ref 82)) _ _ _); k_dflt (refine' topNotIn_tup (K := hd.heap_39 _) (ys := [Str.ofString "root", Str.ofString "element"]) (b := false) ?F ?X ?l ?S ?b ?_; (case F => k_asm); (case X => k_asm); (case l => k_is); (case S => exact .cons _ _ (.cons _ _ .nil)); (case b => decide +kernel))) | (walk1 <;> (try ((with_reducible show wpAny _ _ (exec _ _) _ _ _); k_fold))) | (dsimp only; walk1) | (leave1; (try dsimp only))))
    subst el6
    have h9 : tup ≠ I9 := Nat.ne_of_gt l9.2.2.1
    have hoff7 := fun nr' nn' => WJ.off (rl := rl) (nl := nl) (vs := vs) (ns := ns) (nr := nr) (nn := nn) (nr' := nr') (nn' := nn') (vs' := vs) (ns' := ns) (N := N) (tup := tup) (ot := ({ cls := .type "tuple", data := .seq #[.str p tp, .str pu tu] } : Obj)) (orw' := listOf (rv ++ [Value.ref tup]).toArray (nw + 1)) (o4 := srcObj a4 b4 ta4 tb4 n4) hU0' hI' h9
    have IT7 := IT6.push (nr := nr) (nn := nn) (x := I9) (o := it) (hoff7 nr nn)
    have N8 := News.sub N7 treeL_in
    clear N7 N6
    refine' MC.use2 (addns_mc w IT7 (by omega)) ?_ (N := N8)
    intro r9 news9 h9' tk9 F9 N9 hR9
    obtain ⟨vs9, ns9, M9, nr9, nn9, IT9, e9, hl9, el9⟩ := hR9
    subst news9
    have N10 := News.sub N9 treeL_out
    have hW := WJ.next (nr' := nr9) (nn' := nn9) hfix hU0' IT9 hP hrl hNl hps hK hp5 hs4 hoff hts t1 t2 e9 hl9
    have hO := WJ.off3 (nr := nr9) (nn := nn9) IT9 fun q hq => hoff7 nr nn q (treeL_rest hq)
    clear N9
    repeat' (first | (k_unfold; (try dsimp only)) | (k_end; wrow_close) | ((with_reducible show wpAny _ _ (newList _) _ _ _); k_here; k_dflt (refine' newList_K ?k1 ?k2 ?_ ?kz; (case k1 => k_asm); (case k2 => k_asm); (case kz => (rw [sizeLine_eq]; simp only [List.length_cons, List.length_nil]; omega)); k_whole); intro zlq zhq zFq zNq zl1; (try k_sweep)) | ((with_reducible show wpAny _ _ (call (Value.ref _) _) _ _ _); k_here; (with_reducible show wpAny _ _ (call (Value.ref 313) _) _ _ _); k_dflt (refine' MC.use2 (one_mc _ ?U ?hs ?hm ?hne ?hl ?hk) ?_; (case U => first | assumption | k_updF); (case hs => assumption); (case hm => k_mem); (case hne => k_ne); (case hl => exact rfl); (case hk => (constructor <;> (simp only [List.length_cons, List.length_nil]; omega))); intro zr9 znews9 zh9 ztk9 zF9 zN9 zhR9; obtain ⟨zi9, za9, zb9, zta9, ztb9, zn9, zhr9, zhs9, zel9⟩ := zhR9; subst zel9; obtain ⟨zx9, zu9, ze9, zhx9⟩ := pick_strs (by rfl) zhr9; subst ze9; clear zhr9; (try k_sweep); (try dsimp only); (try k_fold))) | ((with_reducible show wpAny _ _ (call (Value.ref _) _) _ _ _); k_here; (with_reducible show wpAny _ _ (call (Value.ref 306) _) _ _ _); k_dflt (refine' MC.use2 (take_use _ ?U ?hs ?ht) ?_; (case U => first | assumption | k_updF); (case hs => assumption); (case ht => first | assumption | decide); intro zr9 znews9 zh9 ztk9 zF9 zN9 zhR9; obtain ⟨zk9, zt9, za9, zb9, zta9, ztb9, zn9, ze9, zhlo9, zhhi9, zhs9, zel9⟩ := zhR9; subst ze9; subst zel9; (try k_sweep); (try dsimp only); (try k_fold))) | ((with_reducible show wpAny _ _ (compareOp CmpOp.NotIn (Value.str _ _) (Value.ref _)) _ _ _); k_here; (with_reducible show wpAny _ _ (compareOp CmpOp.NotIn (Value.str _ _) (Value.ref 82)) _ _ _); k_dflt (refine' topNotIn_tup (K := hd.heap_39 _) (ys := [Str.ofString "root", Str.ofString "element"]) (b := false) ?F ?X ?l ?S ?b ?_; (case F => k_asm); (case X => k_asm); (case l => k_is); (case S => exact .cons _ _ (.cons _ _ .nil)); (case b => decide +kernel))) | (walk1 <;> (try ((with_reducible show wpAny _ _ (exec _ _) _ _ _); k_fold))) | (dsimp only; walk1) | (leave1; (try dsimp only)))
    refine LPost.next (by k_asm) N10 _ (fun q hq => hq) hO ⟨⟨_, hW⟩, fun z h1 h2 => ?_⟩
    simp only [if_neg h1, h2, Bool.false_eq_true, if_false]
  case done =>
    intro u nx h tk hJ F2 N2
    clear hR F1 N1 hs9 hw
    obtain ⟨rows, vs, ns, rv, M, nr, nn, nw, tl, a1, b1, ta1, tb1, n1, IT, hP, hrl, hNl, hps, hK, hs2', hoff, hts, rfl⟩ := hJ
    have hsr0 := UpdF.here U
    have hsF : (sd, so) ∈ rF (srcObj a1 b1 ta1 tb1 n1) := by
      rw [hrF]
      exact .tail _ (.tail _ (.tail _ (.tail _ (.tail _ (UpdF.keeps U hsd hne _)))))
    have hs7 : (sd, so) ∈ treeL rl nl vs ns nr nn M ((rw, listOf rv.toArray nw) :: (tl ++ rF (srcObj a1 b1 ta1 tb1 n1))) := treeL_rest (.tail _ (List.mem_append_right _ hsF))
    have hm7 : (rw, listOf rv.toArray nw) ∈ treeL rl nl vs ns nr nn M ((rw, listOf rv.toArray nw) :: (tl ++ rF (srcObj a1 b1 ta1 tb1 n1))) := treeL_rest (.head _)
    have hP7 : PairsAt (treeL rl nl vs ns nr nn M ((rw, listOf rv.toArray nw) :: (tl ++ rF (srcObj a1 b1 ta1 tb1 n1)))) rv rows := hP.mono fun q hq => treeL_rest (.tail _ (List.mem_append_left _ hq))
    obtain ⟨led7, el7, hs8, hm8, hP8⟩ : ∃ led7, led7 = _ ∧ (sd, so) ∈ led7 ∧ (rw, listOf rv.toArray nw) ∈ led7 ∧ PairsAt led7 rv rows := ⟨_, rfl, hs7, hm7, hP7⟩
    rw [← el7] at N2
    clear hs7 hm7 hP7
    repeat' ((fail_if_success (with_reducible show wpAny _ _ (pyIter (Value.ref _)) _ _ _)); (first | (k_unfold; (try dsimp only)) | (k_end; wrow_close) | ((with_reducible show wpAny _ _ (setItem (Value.ref _) (Value.str _ _) _) _ _ _); k_here; k_dflt (refine tt_set (by k_asm) (by k_asm) (by k_updF) (by assumption) (by omega) ?_); intro zhq zoq zFq zNq zhTq; (try dsimp only at zNq)) | ((with_reducible show wpAny _ _ (call (Value.builtin "dict.get") _) _ _ _); k_here; k_dflt (refine tt_get2 (by k_asm) (by k_mem) (by assumption) ?_); intro ztq) | ((with_reducible show wpAny _ _ (getMethod (Value.ref _) _ _) _ _ _); k_here; (with_reducible show wpAny _ _ (getMethod (Value.ref _) (Str.ofString "get") _) _ _ _); k_dflt (refine tt_meth (by k_asm) (by k_mem) (by assumption) ?_)) | ((with_reducible show wpAny _ _ (call (Value.type _) _) _ _ _); k_here; (with_reducible show wpAny _ _ (call (Value.type "dict") [Value.ref _]) _ _ _); k_dflt (refine tt_dict (by k_asm) (by k_asm) (Top.nolimit (by k_asm)) (by k_mem) (by assumption) (by omega) ?_); intro zxq zhq zoq zFq zNq zl1 zT1; (try k_lt zl1)) | ((with_reducible show wpAny _ _ (newList _) _ _ _); k_here; k_dflt (refine' newList_K ?k1 ?k2 ?_ ?kz; (case k1 => k_asm); (case k2 => k_asm); (case kz => (rw [sizeLine_eq]; simp only [List.length_cons, List.length_nil]; omega)); k_whole); intro zlq zhq zFq zNq zl1; (try k_sweep)) | ((with_reducible show wpAny _ _ (call (Value.ref _) _) _ _ _); k_here; (with_reducible show wpAny _ _ (call (Value.ref 313) _) _ _ _); k_dflt (refine' MC.use2 (one_mc _ ?U ?hs ?hm ?hne ?hl ?hk) ?_; (case U => first | assumption | k_updF); (case hs => assumption); (case hm => k_mem); (case hne => k_ne); (case hl => exact rfl); (case hk => (constructor <;> (simp only [List.length_cons, List.length_nil]; omega))); intro zr9 znews9 zh9 ztk9 zF9 zN9 zhR9; obtain ⟨zi9, za9, zb9, zta9, ztb9, zn9, zhr9, zhs9, zel9⟩ := zhR9; subst zel9; obtain ⟨zx9, zu9, ze9, zhx9⟩ := pick_strs (by rfl) zhr9; subst ze9; clear zhr9; (try k_sweep); (try dsimp only); (try k_fold))) | ((with_reducible show wpAny _ _ (call (Value.ref _) _) _ _ _); k_here; (with_reducible show wpAny _ _ (call (Value.ref 306) _) _ _ _); k_dflt (refine' MC.use2 (take_use _ ?U ?hs ?ht) ?_; (case U => first | assumption | k_updF); (case hs => assumption); (case ht => first | assumption | decide); intro zr9 znews9 zh9 ztk9 zF9 zN9 zhR9; obtain ⟨zk9, zt9, za9, zb9, zta9, ztb9, zn9, ze9, zhlo9, zhhi9, zhs9, zel9⟩ := zhR9; subst ze9; subst zel9; (try k_sweep); (try dsimp only); (try k_fold))) | ((with_reducible show wpAny _ _ (compareOp CmpOp.NotIn (Value.str _ _) (Value.ref _)) _ _ _); k_here; (with_reducible show wpAny _ _ (compareOp CmpOp.NotIn (Value.str _ _) (Value.ref 82)) _ _ _); k_dflt (refine' topNotIn_tup (K := hd.heap_39 _) (ys := [Str.ofString "root", Str.ofString "element"]) (b := false) ?F ?X ?l ?S ?b ?_; (case F => k_asm); (case X => k_asm); (case l => k_is); (case S => exact .cons _ _ (.cons _ _ .nil)); (case b => decide +kernel))) | (walk1 <;> (try ((with_reducible show wpAny _ _ (exec _ _) _ _ _); k_fold))) | (dsimp only; walk1) | (leave1; (try dsimp only))))
    rename Fr _ _ _ _ => F3
    rename News _ _ _ (_ :: _ :: _ :: _ :: led7) => N3
    refine nmH N3 fun vl ln lp D dd hh oD od oh hvl N3' z1 z2 z3 z4 z5 z6 => ?_
    subst z1; subst z2; subst z3; subst z4; subst z5; subst z6
    rename ∀ p ∈ _ :: _ :: _ :: led7, p.1 < lp => l9
    rename hh < dd ∧ AllLt _ _ => l8
    rename ∀ p ∈ led7, p.1 < hh => l7
    rename TT w hh _ cs => Th
    rename (dd == sysModules) = false => lod
    rename Obj.IsDictOf (PySem.strKind PR w) _ [] => hdd
    have Td : TT w dd od [] := ⟨lod, [], hdd, .nil⟩
    obtain ⟨base, eb, hbc, IT8, hsub⟩ := WJ.base (nr := nr) (nn := nn) hrF hes2.es IT hts hoff U l0 rfl q1 q2 q3.1 hre hdx2
    rw [← el7] at hsub
    have N4 := News.sub N3' (subH hsub)
    have hcl7 := l7 _ (hsub _ (.head _))
    dsimp only at hcl7
    have hdh : hh < dd := l8.1
    have hld : dd < lp := l9 (dd, od) (.tail _ (.head _))
    have hbl : ∀ p ∈ base, p.1 < hh := fun p hp => l7 p (hsub p (.tail _ hp))
    have hbg : ∀ p ∈ g (srcObj a1 b1 ta1 tb1 n1), p ∈ base := by
      rw [eb]
      exact fun p hp => treeL_rest (.tail _ (List.mem_append_right _ (.tail _ (.tail _ (.tail _ (.tail _ hp))))))
    have hbs : (sd, so) ∈ base := hbg _ (UpdF.keeps U hsd hne _)
    have hbr : (rw, listOf rv.toArray nw) ∈ base := by rw [eb]; exact treeL_rest (.head _)
    have hbP : PairsAt base rv rows := by rw [eb]; exact hP.mono fun q hq => treeL_rest (.tail _ (List.mem_append_left _ hq))
    have hM5 : M.length ≤ 5 := by omega
    have hr5 : rows.length ≤ 5 := by omega
    have hpsM : pairs M = psOf rows := hps
    clear N3 N3' N hU2 hU0 hfix hrF IT hP hP8 hm8 hs8 hsF el7 l9 l8 l7 hdd lod hsub hoff hts hgt hrw nsrc I1 hrl hNl hps
    refine turns_inv [Str.ofString "told", Str.ofString "uri"] (fun i u nx => ∃ (oc od : Obj) (v0 : Option Value) (c : Prs), oc.data = .cell v0 ∧ TT w dd od c ∧ c = (P5.take i).foldl (dueStep rows cs) [] ∧ c.length ≤ i ∧ nx = (lp, listOf vl.toArray ln) :: (dd, od) :: (hh, oh) :: (L' + 1, oc) :: base) (by rfl) F3 N4 (.head _) ⟨_, _, _, [], hv00, Td, rfl, Nat.zero_le _, rfl⟩ ?turn ?done
    case turn =>
      intro I9 i v u9 h tk nx it hv hJ hI hlp hc F5 N5
      obtain ⟨oc, od9, v0, c, hoc, hT, hcc, hcl, rfl⟩ := hJ
      obtain ⟨p, tp, rfl, hp⟩ := strs_at hvl hv
      have i1 : I9 ≠ L' + 1 := fun z => hI (L' + 1, oc) (.tail _ (.tail _ (.tail _ (.head _)))) z.symm
      have i2 : lp ≠ L' + 1 := Nat.ne_of_gt (Nat.lt_trans hcl7 (Nat.lt_trans hdh hld))
      have i3 : dd ≠ L' + 1 := Nat.ne_of_gt (Nat.lt_trans hcl7 hdh)
      have i4 : hh ≠ L' + 1 := Nat.ne_of_gt hcl7
      have hUc := UpdF.tail (p := (I9, it)) i1 (.tail (p := (lp, listOf vl.toArray ln)) i2 (.tail (p := (dd, od9)) i3 (.tail (p := (hh, oh)) i4 (.head (o := oc) hbc))))
      repeat' ((fail_if_success (with_reducible show wpAny _ _ (storeName _ _ _) _ _ _)); (first | (k_unfold; (try dsimp only)) | (k_end; wrow_close) | ((with_reducible show wpAny _ _ (setItem (Value.ref _) (Value.str _ _) _) _ _ _); k_here; k_dflt (refine tt_set (by k_asm) (by k_asm) (by k_updF) (by assumption) (by omega) ?_); intro zhq zoq zFq zNq zhTq; (try dsimp only at zNq)) | ((with_reducible show wpAny _ _ (call (Value.builtin "dict.get") _) _ _ _); k_here; k_dflt (refine tt_get2 (by k_asm) (by k_mem) (by assumption) ?_); intro ztq) | ((with_reducible show wpAny _ _ (getMethod (Value.ref _) _ _) _ _ _); k_here; (with_reducible show wpAny _ _ (getMethod (Value.ref _) (Str.ofString "get") _) _ _ _); k_dflt (refine tt_meth (by k_asm) (by k_mem) (by assumption) ?_)) | ((with_reducible show wpAny _ _ (call (Value.type _) _) _ _ _); k_here; (with_reducible show wpAny _ _ (call (Value.type "dict") [Value.ref _]) _ _ _); k_dflt (refine tt_dict (by k_asm) (by k_asm) (Top.nolimit (by k_asm)) (by k_mem) (by assumption) (by omega) ?_); intro zxq zhq zoq zFq zNq zl1 zT1; (try k_lt zl1)) | ((with_reducible show wpAny _ _ (newList _) _ _ _); k_here; k_dflt (refine' newList_K ?k1 ?k2 ?_ ?kz; (case k1 => k_asm); (case k2 => k_asm); (case kz => (rw [sizeLine_eq]; simp only [List.length_cons, List.length_nil]; omega)); k_whole); intro zlq zhq zFq zNq zl1; (try k_sweep)) | ((with_reducible show wpAny _ _ (call (Value.ref _) _) _ _ _); k_here; (with_reducible show wpAny _ _ (call (Value.ref 313) _) _ _ _); k_dflt (refine' MC.use2 (one_mc _ ?U ?hs ?hm ?hne ?hl ?hk) ?_; (case U => first | assumption | k_updF); (case hs => assumption); (case hm => k_mem); (case hne => k_ne); (case hl => exact rfl); (case hk => (constructor <;> (simp only [List.length_cons, List.length_nil]; omega))); intro zr9 znews9 zh9 ztk9 zF9 zN9 zhR9; obtain ⟨zi9, za9, zb9, zta9, ztb9, zn9, zhr9, zhs9, zel9⟩ := zhR9; subst zel9; obtain ⟨zx9, zu9, ze9, zhx9⟩ := pick_strs (by rfl) zhr9; subst ze9; clear zhr9; (try k_sweep); (try dsimp only); (try k_fold))) | ((with_reducible show wpAny _ _ (call (Value.ref _) _) _ _ _); k_here; (with_reducible show wpAny _ _ (call (Value.ref 306) _) _ _ _); k_dflt (refine' MC.use2 (take_use _ ?U ?hs ?ht) ?_; (case U => first | assumption | k_updF); (case hs => assumption); (case ht => first | assumption | decide); intro zr9 znews9 zh9 ztk9 zF9 zN9 zhR9; obtain ⟨zk9, zt9, za9, zb9, zta9, ztb9, zn9, ze9, zhlo9, zhhi9, zhs9, zel9⟩ := zhR9; subst ze9; subst zel9; (try k_sweep); (try dsimp only); (try k_fold))) | ((with_reducible show wpAny _ _ (compareOp CmpOp.NotIn (Value.str _ _) (Value.ref _)) _ _ _); k_here; (with_reducible show wpAny _ _ (compareOp CmpOp.NotIn (Value.str _ _) (Value.ref 82)) _ _ _); k_dflt (refine' topNotIn_tup (K := hd.heap_39 _) (ys := [Str.ofString "root", Str.ofString "element"]) (b := false) ?F ?X ?l ?S ?b ?_; (case F => k_asm); (case X => k_asm); (case l => k_is); (case S => exact .cons _ _ (.cons _ _ .nil)); (case b => decide +kernel))) | (walk1 <;> (try ((with_reducible show wpAny _ _ (exec _ _) _ _ _); k_fold))) | (dsimp only; walk1) | (leave1; (try dsimp only))))
      refine storeX_C F5 N5 ?_ hUc hoc (fun h6 oc7 F7 N7 hoc7 => ?_) ?_ ?_
      · exact rfl
      rotate_left
      · exact rfl
      · exact rfl
      clear F5 N5 hUc hoc
      repeat' ((fail_if_success (with_reducible show wpAny _ _ (exec (Stmt.Assign _ (Expr.ListComp _ _ _ _) _) _) _ _ _)); (first | (k_unfold; (try dsimp only)) | (k_end; wrow_close) | ((with_reducible show wpAny _ _ (setItem (Value.ref _) (Value.str _ _) _) _ _ _); k_here; k_dflt (refine tt_set (by k_asm) (by k_asm) (by k_updF) (by assumption) (by omega) ?_); intro zhq zoq zFq zNq zhTq; (try dsimp only at zNq)) | ((with_reducible show wpAny _ _ (call (Value.builtin "dict.get") _) _ _ _); k_here; k_dflt (refine tt_get2 (by k_asm) (by k_mem) (by assumption) ?_); intro ztq) | ((with_reducible show wpAny _ _ (getMethod (Value.ref _) _ _) _ _ _); k_here; (with_reducible show wpAny _ _ (getMethod (Value.ref _) (Str.ofString "get") _) _ _ _); k_dflt (refine tt_meth (by k_asm) (by k_mem) (by assumption) ?_)) | ((with_reducible show wpAny _ _ (call (Value.type _) _) _ _ _); k_here; (with_reducible show wpAny _ _ (call (Value.type "dict") [Value.ref _]) _ _ _); k_dflt (refine tt_dict (by k_asm) (by k_asm) (Top.nolimit (by k_asm)) (by k_mem) (by assumption) (by omega) ?_); intro zxq zhq zoq zFq zNq zl1 zT1; (try k_lt zl1)) | ((with_reducible show wpAny _ _ (newList _) _ _ _); k_here; k_dflt (refine' newList_K ?k1 ?k2 ?_ ?kz; (case k1 => k_asm); (case k2 => k_asm); (case kz => (rw [sizeLine_eq]; simp only [List.length_cons, List.length_nil]; omega)); k_whole); intro zlq zhq zFq zNq zl1; (try k_sweep)) | ((with_reducible show wpAny _ _ (call (Value.ref _) _) _ _ _); k_here; (with_reducible show wpAny _ _ (call (Value.ref 313) _) _ _ _); k_dflt (refine' MC.use2 (one_mc _ ?U ?hs ?hm ?hne ?hl ?hk) ?_; (case U => first | assumption | k_updF); (case hs => assumption); (case hm => k_mem); (case hne => k_ne); (case hl => exact rfl); (case hk => (constructor <;> (simp only [List.length_cons, List.length_nil]; omega))); intro zr9 znews9 zh9 ztk9 zF9 zN9 zhR9; obtain ⟨zi9, za9, zb9, zta9, ztb9, zn9, zhr9, zhs9, zel9⟩ := zhR9; subst zel9; obtain ⟨zx9, zu9, ze9, zhx9⟩ := pick_strs (by rfl) zhr9; subst ze9; clear zhr9; (try k_sweep); (try dsimp only); (try k_fold))) | ((with_reducible show wpAny _ _ (call (Value.ref _) _) _ _ _); k_here; (with_reducible show wpAny _ _ (call (Value.ref 306) _) _ _ _); k_dflt (refine' MC.use2 (take_use _ ?U ?hs ?ht) ?_; (case U => first | assumption | k_updF); (case hs => assumption); (case ht => first | assumption | decide); intro zr9 znews9 zh9 ztk9 zF9 zN9 zhR9; obtain ⟨zk9, zt9, za9, zb9, zta9, ztb9, zn9, ze9, zhlo9, zhhi9, zhs9, zel9⟩ := zhR9; subst ze9; subst zel9; (try k_sweep); (try dsimp only); (try k_fold))) | ((with_reducible show wpAny _ _ (compareOp CmpOp.NotIn (Value.str _ _) (Value.ref _)) _ _ _); k_here; (with_reducible show wpAny _ _ (compareOp CmpOp.NotIn (Value.str _ _) (Value.ref 82)) _ _ _); k_dflt (refine' topNotIn_tup (K := hd.heap_39 _) (ys := [Str.ofString "root", Str.ofString "element"]) (b := false) ?F ?X ?l ?S ?b ?_; (case F => k_asm); (case X => k_asm); (case l => k_is); (case S => exact .cons _ _ (.cons _ _ .nil)); (case b => decide +kernel))) | (walk1 <;> (try ((with_reducible show wpAny _ _ (exec _ _) _ _ _); k_fold))) | (dsimp only; walk1) | (leave1; (try dsimp only))))
      refine comp_assign (cl := [(Str.ofString "prefix", L' + 1)]) (pr := p) ?hh F7 N7 rfl (.tail _ (.tail _ (.tail _ (.tail _ (.tail _ hbr))))) (hbP.mono fun q hq => .tail _ (.tail _ (.tail _ (.tail _ (.tail _ hq))))) ?hsz ?hsw ?hclos ?hcell ?hkind ?hnames ?hx ?hx2 ?hxx ?hd ?hy ?hp ?hi ?htest ?hdone
      case hh => exact rfl
      case hsz => rw [sizeLine_eq, hbP.len]; omega
      case hsw => with_unfolding_all rfl
      case hclos => with_unfolding_all rfl
      case hcell => decide
      case hkind => exact rfl
      case hnames => decide
      case hx => exact rfl
      case hx2 => exact rfl
      case hxx => decide +kernel
      case hd => decide +kernel
      case hy => exact rfl
      case hp => exact rfl
      case hi =>
        repeat' (first | (k_unfold; (try dsimp only)) | (k_end; wrow_close) | ((with_reducible show wpAny _ _ (setItem (Value.ref _) (Value.str _ _) _) _ _ _); k_here; k_dflt (refine tt_set (by k_asm) (by k_asm) (by k_updF) (by assumption) (by omega) ?_); intro zhq zoq zFq zNq zhTq; (try dsimp only at zNq)) | ((with_reducible show wpAny _ _ (call (Value.builtin "dict.get") _) _ _ _); k_here; k_dflt (refine tt_get2 (by k_asm) (by k_mem) (by assumption) ?_); intro ztq) | ((with_reducible show wpAny _ _ (getMethod (Value.ref _) _ _) _ _ _); k_here; (with_reducible show wpAny _ _ (getMethod (Value.ref _) (Str.ofString "get") _) _ _ _); k_dflt (refine tt_meth (by k_asm) (by k_mem) (by assumption) ?_)) | ((with_reducible show wpAny _ _ (call (Value.type _) _) _ _ _); k_here; (with_reducible show wpAny _ _ (call (Value.type "dict") [Value.ref _]) _ _ _); k_dflt (refine tt_dict (by k_asm) (by k_asm) (Top.nolimit (by k_asm)) (by k_mem) (by assumption) (by omega) ?_); intro zxq zhq zoq zFq zNq zl1 zT1; (try k_lt zl1)) | ((with_reducible show wpAny _ _ (newList _) _ _ _); k_here; k_dflt (refine' newList_K ?k1 ?k2 ?_ ?kz; (case k1 => k_asm); (case k2 => k_asm); (case kz => (rw [sizeLine_eq]; simp only [List.length_cons, List.length_nil]; omega)); k_whole); intro zlq zhq zFq zNq zl1; (try k_sweep)) | ((with_reducible show wpAny _ _ (call (Value.ref _) _) _ _ _); k_here; (with_reducible show wpAny _ _ (call (Value.ref 313) _) _ _ _); k_dflt (refine' MC.use2 (one_mc _ ?U ?hs ?hm ?hne ?hl ?hk) ?_; (case U => first | assumption | k_updF); (case hs => assumption); (case hm => k_mem); (case hne => k_ne); (case hl => exact rfl); (case hk => (constructor <;> (simp only [List.length_cons, List.length_nil]; omega))); intro zr9 znews9 zh9 ztk9 zF9 zN9 zhR9; obtain ⟨zi9, za9, zb9, zta9, ztb9, zn9, zhr9, zhs9, zel9⟩ := zhR9; subst zel9; obtain ⟨zx9, zu9, ze9, zhx9⟩ := pick_strs (by rfl) zhr9; subst ze9; clear zhr9; (try k_sweep); (try dsimp only); (try k_fold))) | ((with_reducible show wpAny _ _ (call (Value.ref _) _) _ _ _); k_here; (with_reducible show wpAny _ _ (call (Value.ref 306) _) _ _ _); k_dflt (refine' MC.use2 (take_use _ ?U ?hs ?ht) ?_; (case U => first | assumption | k_updF); (case hs => assumption); (case ht => first | assumption | decide); intro zr9 znews9 zh9 ztk9 zF9 zN9 zhR9; obtain ⟨zk9, zt9, za9, zb9, zta9, ztb9, zn9, ze9, zhlo9, zhhi9, zhs9, zel9⟩ := zhR9; subst ze9; subst zel9; (try k_sweep); (try dsimp only); (try k_fold))) | ((with_reducible show wpAny _ _ (compareOp CmpOp.NotIn (Value.str _ _) (Value.ref _)) _ _ _); k_here; (with_reducible show wpAny _ _ (compareOp CmpOp.NotIn (Value.str _ _) (Value.ref 82)) _ _ _); k_dflt (refine' topNotIn_tup (K := hd.heap_39 _) (ys := [Str.ofString "root", Str.ofString "element"]) (b := false) ?F ?X ?l ?S ?b ?_; (case F => k_asm); (case X => k_asm); (case l => k_is); (case S => exact .cons _ _ (.cons _ _ .nil)); (case b => decide +kernel))) | (walk1 <;> (try ((with_reducible show wpAny _ _ (exec _ _) _ _ _); k_fold))) | (dsimp only; walk1) | (leave1; (try dsimp only)))
        all_goals exact ⟨rfl, rfl⟩
      case htest => 
        intro C oC h8 tk8 m8 p8 u8 tp8 tu8 E8 hoC e1 e2 F8 N8
        clear F7 N7
        repeat' (first | (k_unfold; (try dsimp only)) | (k_end; wrow_close) | ((with_reducible show wpAny _ _ (setItem (Value.ref _) (Value.str _ _) _) _ _ _); k_here; k_dflt (refine tt_set (by k_asm) (by k_asm) (by k_updF) (by assumption) (by omega) ?_); intro zhq zoq zFq zNq zhTq; (try dsimp only at zNq)) | ((with_reducible show wpAny _ _ (call (Value.builtin "dict.get") _) _ _ _); k_here; k_dflt (refine tt_get2 (by k_asm) (by k_mem) (by assumption) ?_); intro ztq) | ((with_reducible show wpAny _ _ (getMethod (Value.ref _) _ _) _ _ _); k_here; (with_reducible show wpAny _ _ (getMethod (Value.ref _) (Str.ofString "get") _) _ _ _); k_dflt (refine tt_meth (by k_asm) (by k_mem) (by assumption) ?_)) | ((with_reducible show wpAny _ _ (call (Value.type _) _) _ _ _); k_here; (with_reducible show wpAny _ _ (call (Value.type "dict") [Value.ref _]) _ _ _); k_dflt (refine tt_dict (by k_asm) (by k_asm) (Top.nolimit (by k_asm)) (by k_mem) (by assumption) (by omega) ?_); intro zxq zhq zoq zFq zNq zl1 zT1; (try k_lt zl1)) | ((with_reducible show wpAny _ _ (newList _) _ _ _); k_here; k_dflt (refine' newList_K ?k1 ?k2 ?_ ?kz; (case k1 => k_asm); (case k2 => k_asm); (case kz => (rw [sizeLine_eq]; simp only [List.length_cons, List.length_nil]; omega)); k_whole); intro zlq zhq zFq zNq zl1; (try k_sweep)) | ((with_reducible show wpAny _ _ (call (Value.ref _) _) _ _ _); k_here; (with_reducible show wpAny _ _ (call (Value.ref 313) _) _ _ _); k_dflt (refine' MC.use2 (one_mc _ ?U ?hs ?hm ?hne ?hl ?hk) ?_; (case U => first | assumption | k_updF); (case hs => assumption); (case hm => k_mem); (case hne => k_ne); (case hl => exact rfl); (case hk => (constructor <;> (simp only [List.length_cons, List.length_nil]; omega))); intro zr9 znews9 zh9 ztk9 zF9 zN9 zhR9; obtain ⟨zi9, za9, zb9, zta9, ztb9, zn9, zhr9, zhs9, zel9⟩ := zhR9; subst zel9; obtain ⟨zx9, zu9, ze9, zhx9⟩ := pick_strs (by rfl) zhr9; subst ze9; clear zhr9; (try k_sweep); (try dsimp only); (try k_fold))) | ((with_reducible show wpAny _ _ (call (Value.ref _) _) _ _ _); k_here; (with_reducible show wpAny _ _ (call (Value.ref 306) _) _ _ _); k_dflt (refine' MC.use2 (take_use _ ?U ?hs ?ht) ?_; (case U => first | assumption | k_updF); (case hs => assumption); (case ht => first | assumption | decide); intro zr9 znews9 zh9 ztk9 zF9 zN9 zhR9; obtain ⟨zk9, zt9, za9, zb9, zta9, ztb9, zn9, ze9, zhlo9, zhhi9, zhs9, zel9⟩ := zhR9; subst ze9; subst zel9; (try k_sweep); (try dsimp only); (try k_fold))) | ((with_reducible show wpAny _ _ (compareOp CmpOp.NotIn (Value.str _ _) (Value.ref _)) _ _ _); k_here; (with_reducible show wpAny _ _ (compareOp CmpOp.NotIn (Value.str _ _) (Value.ref 82)) _ _ _); k_dflt (refine' topNotIn_tup (K := hd.heap_39 _) (ys := [Str.ofString "root", Str.ofString "element"]) (b := false) ?F ?X ?l ?S ?b ?_; (case F => k_asm); (case X => k_asm); (case l => k_is); (case S => exact .cons _ _ (.cons _ _ .nil)); (case b => decide +kernel))) | (walk1 <;> (try ((with_reducible show wpAny _ _ (exec _ _) _ _ _); k_fold))) | (dsimp only; walk1) | (leave1; (try dsimp only)))
        all_goals exact ⟨rfl, _, rfl⟩
      case hdone =>
        intro D8 h8 tk8 ys F8 N8 hl8 hys
        clear F7 N7
        repeat' ((fail_if_success (with_reducible show wpAny _ _ (compareOp _ _ _) _ _ _)); (first | (k_unfold; (try dsimp only)) | (k_end; wrow_close) | ((with_reducible show wpAny _ _ (setItem (Value.ref _) (Value.str _ _) _) _ _ _); k_here; k_dflt (refine tt_set (by k_asm) (by k_asm) (by k_updF) (by assumption) (by omega) ?_); intro zhq zoq zFq zNq zhTq; (try dsimp only at zNq)) | ((with_reducible show wpAny _ _ (call (Value.builtin "dict.get") _) _ _ _); k_here; k_dflt (refine tt_get2 (by k_asm) (by k_mem) (by assumption) ?_); intro ztq) | ((with_reducible show wpAny _ _ (getMethod (Value.ref _) _ _) _ _ _); k_here; (with_reducible show wpAny _ _ (getMethod (Value.ref _) (Str.ofString "get") _) _ _ _); k_dflt (refine tt_meth (by k_asm) (by k_mem) (by assumption) ?_)) | ((with_reducible show wpAny _ _ (call (Value.type _) _) _ _ _); k_here; (with_reducible show wpAny _ _ (call (Value.type "dict") [Value.ref _]) _ _ _); k_dflt (refine tt_dict (by k_asm) (by k_asm) (Top.nolimit (by k_asm)) (by k_mem) (by assumption) (by omega) ?_); intro zxq zhq zoq zFq zNq zl1 zT1; (try k_lt zl1)) | ((with_reducible show wpAny _ _ (newList _) _ _ _); k_here; k_dflt (refine' newList_K ?k1 ?k2 ?_ ?kz; (case k1 => k_asm); (case k2 => k_asm); (case kz => (rw [sizeLine_eq]; simp only [List.length_cons, List.length_nil]; omega)); k_whole); intro zlq zhq zFq zNq zl1; (try k_sweep)) | ((with_reducible show wpAny _ _ (call (Value.ref _) _) _ _ _); k_here; (with_reducible show wpAny _ _ (call (Value.ref 313) _) _ _ _); k_dflt (refine' MC.use2 (one_mc _ ?U ?hs ?hm ?hne ?hl ?hk) ?_; (case U => first | assumption | k_updF); (case hs => assumption); (case hm => k_mem); (case hne => k_ne); (case hl => exact rfl); (case hk => (constructor <;> (simp only [List.length_cons, List.length_nil]; omega))); intro zr9 znews9 zh9 ztk9 zF9 zN9 zhR9; obtain ⟨zi9, za9, zb9, zta9, ztb9, zn9, zhr9, zhs9, zel9⟩ := zhR9; subst zel9; obtain ⟨zx9, zu9, ze9, zhx9⟩ := pick_strs (by rfl) zhr9; subst ze9; clear zhr9; (try k_sweep); (try dsimp only); (try k_fold))) | ((with_reducible show wpAny _ _ (call (Value.ref _) _) _ _ _); k_here; (with_reducible show wpAny _ _ (call (Value.ref 306) _) _ _ _); k_dflt (refine' MC.use2 (take_use _ ?U ?hs ?ht) ?_; (case U => first | assumption | k_updF); (case hs => assumption); (case ht => first | assumption | decide); intro zr9 znews9 zh9 ztk9 zF9 zN9 zhR9; obtain ⟨zk9, zt9, za9, zb9, zta9, ztb9, zn9, ze9, zhlo9, zhhi9, zhs9, zel9⟩ := zhR9; subst ze9; subst zel9; (try k_sweep); (try dsimp only); (try k_fold))) | ((with_reducible show wpAny _ _ (compareOp CmpOp.NotIn (Value.str _ _) (Value.ref _)) _ _ _); k_here; (with_reducible show wpAny _ _ (compareOp CmpOp.NotIn (Value.str _ _) (Value.ref 82)) _ _ _); k_dflt (refine' topNotIn_tup (K := hd.heap_39 _) (ys := [Str.ofString "root", Str.ofString "element"]) (b := false) ?F ?X ?l ?S ?b ?_; (case F => k_asm); (case X => k_asm); (case l => k_is); (case S => exact .cons _ _ (.cons _ _ .nil)); (case b => decide +kernel))) | (walk1 <;> (try ((with_reducible show wpAny _ _ (exec _ _) _ _ _); k_fold))) | (dsimp only; walk1) | (leave1; (try dsimp only))))
        rcases List.eq_nil_or_concat ys with rfl | ⟨ys', y, rfl⟩
        · rename News _ _ _ (_ :: _ :: (I9, it) :: _) => N9
          refine ne_nil ⟨_, N9.get (.tail _ (.head _)), rfl, _, rfl⟩ ⟨_, N9.get (.head _), rfl, _, rfl⟩ (by ktr_units) ?_
          have N10 := News.sub N9 (fun p hp => .tail _ (.tail _ hp))
          have hsel := strs_nil hys
          have hi5 : i < 5 := (List.getElem?_eq_some_iff.mp hp).1
          have hUd := updD (od := od9) (it := it) (ol := listOf vl.toArray ln) (oh := oh) (oc := oc7) (fun z => hI (dd, od9) (.tail _ (.head _)) z.symm) hld hdh hcl7 hbl
          have hstep : (P5.take (i + 1)).foldl (dueStep rows cs) [] = dueStep rows cs c p := by
            rw [List.take_add_one]; unfold P5; rw [hp, Option.toList_some, List.foldl_append, hcc]; rfl
          clear N9
          repeat' (first | (k_unfold; (try dsimp only)) | (k_end; wrow_close) | ((with_reducible show wpAny _ _ (setItem (Value.ref _) (Value.str _ _) _) _ _ _); k_here; k_dflt (refine tt_set (by k_asm) (by k_asm) (by k_updF) (by assumption) (by omega) ?_); intro zhq zoq zFq zNq zhTq; (try dsimp only at zNq)) | ((with_reducible show wpAny _ _ (call (Value.builtin "dict.get") _) _ _ _); k_here; k_dflt (refine tt_get2 (by k_asm) (by k_mem) (by assumption) ?_); intro ztq) | ((with_reducible show wpAny _ _ (getMethod (Value.ref _) _ _) _ _ _); k_here; (with_reducible show wpAny _ _ (getMethod (Value.ref _) (Str.ofString "get") _) _ _ _); k_dflt (refine tt_meth (by k_asm) (by k_mem) (by assumption) ?_)) | ((with_reducible show wpAny _ _ (call (Value.type _) _) _ _ _); k_here; (with_reducible show wpAny _ _ (call (Value.type "dict") [Value.ref _]) _ _ _); k_dflt (refine tt_dict (by k_asm) (by k_asm) (Top.nolimit (by k_asm)) (by k_mem) (by assumption) (by omega) ?_); intro zxq zhq zoq zFq zNq zl1 zT1; (try k_lt zl1)) | ((with_reducible show wpAny _ _ (newList _) _ _ _); k_here; k_dflt (refine' newList_K ?k1 ?k2 ?_ ?kz; (case k1 => k_asm); (case k2 => k_asm); (case kz => (rw [sizeLine_eq]; simp only [List.length_cons, List.length_nil]; omega)); k_whole); intro zlq zhq zFq zNq zl1; (try k_sweep)) | ((with_reducible show wpAny _ _ (call (Value.ref _) _) _ _ _); k_here; (with_reducible show wpAny _ _ (call (Value.ref 313) _) _ _ _); k_dflt (refine' MC.use2 (one_mc _ ?U ?hs ?hm ?hne ?hl ?hk) ?_; (case U => first | assumption | k_updF); (case hs => assumption); (case hm => k_mem); (case hne => k_ne); (case hl => exact rfl); (case hk => (constructor <;> (simp only [List.length_cons, List.length_nil]; omega))); intro zr9 znews9 zh9 ztk9 zF9 zN9 zhR9; obtain ⟨zi9, za9, zb9, zta9, ztb9, zn9, zhr9, zhs9, zel9⟩ := zhR9; subst zel9; obtain ⟨zx9, zu9, ze9, zhx9⟩ := pick_strs (by rfl) zhr9; subst ze9; clear zhr9; (try k_sweep); (try dsimp only); (try k_fold))) | ((with_reducible show wpAny _ _ (call (Value.ref _) _) _ _ _); k_here; (with_reducible show wpAny _ _ (call (Value.ref 306) _) _ _ _); k_dflt (refine' MC.use2 (take_use _ ?U ?hs ?ht) ?_; (case U => first | assumption | k_updF); (case hs => assumption); (case ht => first | assumption | decide); intro zr9 znews9 zh9 ztk9 zF9 zN9 zhR9; obtain ⟨zk9, zt9, za9, zb9, zta9, ztb9, zn9, ze9, zhlo9, zhhi9, zhs9, zel9⟩ := zhR9; subst ze9; subst zel9; (try k_sweep); (try dsimp only); (try k_fold))) | ((with_reducible show wpAny _ _ (compareOp CmpOp.NotIn (Value.str _ _) (Value.ref _)) _ _ _); k_here; (with_reducible show wpAny _ _ (compareOp CmpOp.NotIn (Value.str _ _) (Value.ref 82)) _ _ _); k_dflt (refine' topNotIn_tup (K := hd.heap_39 _) (ys := [Str.ofString "root", Str.ofString "element"]) (b := false) ?F ?X ?l ?S ?b ?_; (case F => k_asm); (case X => k_asm); (case l => k_is); (case S => exact .cons _ _ (.cons _ _ .nil)); (case b => decide +kernel))) | (walk1 <;> (try ((with_reducible show wpAny _ _ (exec _ _) _ _ _); k_fold))) | (dsimp only; walk1) | (leave1; (try dsimp only)))
          all_goals first
            | refine LPost.next (by k_asm) (by k_asm) ((lp, listOf vl.toArray ln) :: (dd, _) :: (hh, oh) :: (L' + 1, oc7) :: base) (fun q hq => hq) (off4 hI) ⟨.head _, ⟨oc7, _, _, put c p _, hoc7, by assumption, (hstep.trans (due_put (uri_nil hsel) (by assumption))).symm, by have := put_len c p ((lk cs p).getD (Str.ofString "")); omega, rfl⟩, fun z h2 => ?_⟩
            | refine LPost.next (by k_asm) (by k_asm) ((lp, listOf vl.toArray ln) :: (dd, _) :: (hh, oh) :: (L' + 1, oc7) :: base) (fun q hq => hq) (off4 hI) ⟨.head _, ⟨oc7, _, _, c, hoc7, by assumption, (hstep.trans (due_skip (uri_nil hsel) (by assumption))).symm, by omega, rfl⟩, fun z h2 => ?_⟩
          all_goals (
            obtain ⟨h3, h4⟩ := contains_f h2
            obtain ⟨h5, _⟩ := contains_f h4
            simp only [if_neg h3, if_neg h5, h2, Bool.false_eq_true, if_false])
        · rename News _ _ _ (_ :: _ :: (I9, it) :: _) => N9
          obtain ⟨ss8, x8, t8, e8, hsel⟩ := strs_snoc (List.concat_eq_append ▸ hys)
          subst e8
          rw [List.concat_eq_append] at N9
          refine ne_snoc ⟨_, N9.get (.tail _ (.head _)), rfl, _, rfl⟩ ⟨_, N9.get (.head _), rfl, _, rfl⟩ (by ktr_units) ?_
          repeat' ((fail_if_success (with_reducible show wpAny _ _ (subscriptTail _ _ _ (Value.int (-1) _)) _ _ _)); (first | (k_unfold; (try dsimp only)) | (k_end; wrow_close) | ((with_reducible show wpAny _ _ (setItem (Value.ref _) (Value.str _ _) _) _ _ _); k_here; k_dflt (refine tt_set (by k_asm) (by k_asm) (by k_updF) (by assumption) (by omega) ?_); intro zhq zoq zFq zNq zhTq; (try dsimp only at zNq)) | ((with_reducible show wpAny _ _ (call (Value.builtin "dict.get") _) _ _ _); k_here; k_dflt (refine tt_get2 (by k_asm) (by k_mem) (by assumption) ?_); intro ztq) | ((with_reducible show wpAny _ _ (getMethod (Value.ref _) _ _) _ _ _); k_here; (with_reducible show wpAny _ _ (getMethod (Value.ref _) (Str.ofString "get") _) _ _ _); k_dflt (refine tt_meth (by k_asm) (by k_mem) (by assumption) ?_)) | ((with_reducible show wpAny _ _ (call (Value.type _) _) _ _ _); k_here; (with_reducible show wpAny _ _ (call (Value.type "dict") [Value.ref _]) _ _ _); k_dflt (refine tt_dict (by k_asm) (by k_asm) (Top.nolimit (by k_asm)) (by k_mem) (by assumption) (by omega) ?_); intro zxq zhq zoq zFq zNq zl1 zT1; (try k_lt zl1)) | ((with_reducible show wpAny _ _ (newList _) _ _ _); k_here; k_dflt (refine' newList_K ?k1 ?k2 ?_ ?kz; (case k1 => k_asm); (case k2 => k_asm); (case kz => (rw [sizeLine_eq]; simp only [List.length_cons, List.length_nil]; omega)); k_whole); intro zlq zhq zFq zNq zl1; (try k_sweep)) | ((with_reducible show wpAny _ _ (call (Value.ref _) _) _ _ _); k_here; (with_reducible show wpAny _ _ (call (Value.ref 313) _) _ _ _); k_dflt (refine' MC.use2 (one_mc _ ?U ?hs ?hm ?hne ?hl ?hk) ?_; (case U => first | assumption | k_updF); (case hs => assumption); (case hm => k_mem); (case hne => k_ne); (case hl => exact rfl); (case hk => (constructor <;> (simp only [List.length_cons, List.length_nil]; omega))); intro zr9 znews9 zh9 ztk9 zF9 zN9 zhR9; obtain ⟨zi9, za9, zb9, zta9, ztb9, zn9, zhr9, zhs9, zel9⟩ := zhR9; subst zel9; obtain ⟨zx9, zu9, ze9, zhx9⟩ := pick_strs (by rfl) zhr9; subst ze9; clear zhr9; (try k_sweep); (try dsimp only); (try k_fold))) | ((with_reducible show wpAny _ _ (call (Value.ref _) _) _ _ _); k_here; (with_reducible show wpAny _ _ (call (Value.ref 306) _) _ _ _); k_dflt (refine' MC.use2 (take_use _ ?U ?hs ?ht) ?_; (case U => first | assumption | k_updF); (case hs => assumption); (case ht => first | assumption | decide); intro zr9 znews9 zh9 ztk9 zF9 zN9 zhR9; obtain ⟨zk9, zt9, za9, zb9, zta9, ztb9, zn9, ze9, zhlo9, zhhi9, zhs9, zel9⟩ := zhR9; subst ze9; subst zel9; (try k_sweep); (try dsimp only); (try k_fold))) | ((with_reducible show wpAny _ _ (compareOp CmpOp.NotIn (Value.str _ _) (Value.ref _)) _ _ _); k_here; (with_reducible show wpAny _ _ (compareOp CmpOp.NotIn (Value.str _ _) (Value.ref 82)) _ _ _); k_dflt (refine' topNotIn_tup (K := hd.heap_39 _) (ys := [Str.ofString "root", Str.ofString "element"]) (b := false) ?F ?X ?l ?S ?b ?_; (case F => k_asm); (case X => k_asm); (case l => k_is); (case S => exact .cons _ _ (.cons _ _ .nil)); (case b => decide +kernel))) | (walk1 <;> (try ((with_reducible show wpAny _ _ (exec _ _) _ _ _); k_fold))) | (dsimp only; walk1) | (leave1; (try dsimp only))))
          refine item_last (v := .str x8 t8) ⟨_, N9.get (.tail _ (.head _)), rfl, _, rfl⟩ ?_
          have N10 := News.sub N9 (fun p hp => .tail _ (.tail _ hp))
          have hi5 : i < 5 := (List.getElem?_eq_some_iff.mp hp).1
          have hUd := updD (od := od9) (it := it) (ol := listOf vl.toArray ln) (oh := oh) (oc := oc7) (fun z => hI (dd, od9) (.tail _ (.head _)) z.symm) hld hdh hcl7 hbl
          have hstep : (P5.take (i + 1)).foldl (dueStep rows cs) [] = dueStep rows cs c p := by
            rw [List.take_add_one]; unfold P5; rw [hp, Option.toList_some, List.foldl_append, hcc]; rfl
          clear N9
          repeat' (first | (k_unfold; (try dsimp only)) | (k_end; wrow_close) | ((with_reducible show wpAny _ _ (setItem (Value.ref _) (Value.str _ _) _) _ _ _); k_here; k_dflt (refine tt_set (by k_asm) (by k_asm) (by k_updF) (by assumption) (by omega) ?_); intro zhq zoq zFq zNq zhTq; (try dsimp only at zNq)) | ((with_reducible show wpAny _ _ (call (Value.builtin "dict.get") _) _ _ _); k_here; k_dflt (refine tt_get2 (by k_asm) (by k_mem) (by assumption) ?_); intro ztq) | ((with_reducible show wpAny _ _ (getMethod (Value.ref _) _ _) _ _ _); k_here; (with_reducible show wpAny _ _ (getMethod (Value.ref _) (Str.ofString "get") _) _ _ _); k_dflt (refine tt_meth (by k_asm) (by k_mem) (by assumption) ?_)) | ((with_reducible show wpAny _ _ (call (Value.type _) _) _ _ _); k_here; (with_reducible show wpAny _ _ (call (Value.type "dict") [Value.ref _]) _ _ _); k_dflt (refine tt_dict (by k_asm) (by k_asm) (Top.nolimit (by k_asm)) (by k_mem) (by assumption) (by omega) ?_); intro zxq zhq zoq zFq zNq zl1 zT1; (try k_lt zl1)) | ((with_reducible show wpAny _ _ (newList _) _ _ _); k_here; k_dflt (refine' newList_K ?k1 ?k2 ?_ ?kz; (case k1 => k_asm); (case k2 => k_asm); (case kz => (rw [sizeLine_eq]; simp only [List.length_cons, List.length_nil]; omega)); k_whole); intro zlq zhq zFq zNq zl1; (try k_sweep)) | ((with_reducible show wpAny _ _ (call (Value.ref _) _) _ _ _); k_here; (with_reducible show wpAny _ _ (call (Value.ref 313) _) _ _ _); k_dflt (refine' MC.use2 (one_mc _ ?U ?hs ?hm ?hne ?hl ?hk) ?_; (case U => first | assumption | k_updF); (case hs => assumption); (case hm => k_mem); (case hne => k_ne); (case hl => exact rfl); (case hk => (constructor <;> (simp only [List.length_cons, List.length_nil]; omega))); intro zr9 znews9 zh9 ztk9 zF9 zN9 zhR9; obtain ⟨zi9, za9, zb9, zta9, ztb9, zn9, zhr9, zhs9, zel9⟩ := zhR9; subst zel9; obtain ⟨zx9, zu9, ze9, zhx9⟩ := pick_strs (by rfl) zhr9; subst ze9; clear zhr9; (try k_sweep); (try dsimp only); (try k_fold))) | ((with_reducible show wpAny _ _ (call (Value.ref _) _) _ _ _); k_here; (with_reducible show wpAny _ _ (call (Value.ref 306) _) _ _ _); k_dflt (refine' MC.use2 (take_use _ ?U ?hs ?ht) ?_; (case U => first | assumption | k_updF); (case hs => assumption); (case ht => first | assumption | decide); intro zr9 znews9 zh9 ztk9 zF9 zN9 zhR9; obtain ⟨zk9, zt9, za9, zb9, zta9, ztb9, zn9, ze9, zhlo9, zhhi9, zhs9, zel9⟩ := zhR9; subst ze9; subst zel9; (try k_sweep); (try dsimp only); (try k_fold))) | ((with_reducible show wpAny _ _ (compareOp CmpOp.NotIn (Value.str _ _) (Value.ref _)) _ _ _); k_here; (with_reducible show wpAny _ _ (compareOp CmpOp.NotIn (Value.str _ _) (Value.ref 82)) _ _ _); k_dflt (refine' topNotIn_tup (K := hd.heap_39 _) (ys := [Str.ofString "root", Str.ofString "element"]) (b := false) ?F ?X ?l ?S ?b ?_; (case F => k_asm); (case X => k_asm); (case l => k_is); (case S => exact .cons _ _ (.cons _ _ .nil)); (case b => decide +kernel))) | (walk1 <;> (try ((with_reducible show wpAny _ _ (exec _ _) _ _ _); k_fold))) | (dsimp only; walk1) | (leave1; (try dsimp only)))
          all_goals first
            | refine LPost.next (by k_asm) (by k_asm) ((lp, listOf vl.toArray ln) :: (dd, _) :: (hh, oh) :: (L' + 1, oc7) :: base) (fun q hq => hq) (off4 hI) ⟨.head _, ⟨oc7, _, _, put c p _, hoc7, by assumption, (hstep.trans (due_put (uri_snoc hsel) (by assumption))).symm, by have := put_len c p x8; omega, rfl⟩, fun z h2 => ?_⟩
            | refine LPost.next (by k_asm) (by k_asm) ((lp, listOf vl.toArray ln) :: (dd, _) :: (hh, oh) :: (L' + 1, oc7) :: base) (fun q hq => hq) (off4 hI) ⟨.head _, ⟨oc7, _, _, c, hoc7, by assumption, (hstep.trans (due_skip (uri_snoc hsel) (by assumption))).symm, by omega, rfl⟩, fun z h2 => ?_⟩
          all_goals (
            obtain ⟨h3, h4⟩ := contains_f h2
            obtain ⟨h5, _⟩ := contains_f h4
            simp only [if_neg h3, if_neg h5, h2, Bool.false_eq_true, if_false])
    case done =>
      intro u9 nx h tk hJ hlp F5 N5
      obtain ⟨oc, od9, v0, c, hoc, hT, hcc, hcl, rfl⟩ := hJ
      have hv5 : vl.length = 5 := hvl.length.trans rfl
      rw [hv5] at hcc hcl
      have hcd : c = due rows cs := hcc.trans rfl
      repeat' ((fail_if_success (with_reducible show wpAny _ _ (call (Value.ref 49) _) _ _ _)); (first | (k_unfold; (try dsimp only)) | (k_end; wrow_close) | ((with_reducible show wpAny _ _ (setItem (Value.ref _) (Value.str _ _) _) _ _ _); k_here; k_dflt (refine tt_set (by k_asm) (by k_asm) (by k_updF) (by assumption) (by omega) ?_); intro zhq zoq zFq zNq zhTq; (try dsimp only at zNq)) | ((with_reducible show wpAny _ _ (call (Value.builtin "dict.get") _) _ _ _); k_here; k_dflt (refine tt_get2 (by k_asm) (by k_mem) (by assumption) ?_); intro ztq) | ((with_reducible show wpAny _ _ (getMethod (Value.ref _) _ _) _ _ _); k_here; (with_reducible show wpAny _ _ (getMethod (Value.ref _) (Str.ofString "get") _) _ _ _); k_dflt (refine tt_meth (by k_asm) (by k_mem) (by assumption) ?_)) | ((with_reducible show wpAny _ _ (call (Value.type _) _) _ _ _); k_here; (with_reducible show wpAny _ _ (call (Value.type "dict") [Value.ref _]) _ _ _); k_dflt (refine tt_dict (by k_asm) (by k_asm) (Top.nolimit (by k_asm)) (by k_mem) (by assumption) (by omega) ?_); intro zxq zhq zoq zFq zNq zl1 zT1; (try k_lt zl1)) | ((with_reducible show wpAny _ _ (newList _) _ _ _); k_here; k_dflt (refine' newList_K ?k1 ?k2 ?_ ?kz; (case k1 => k_asm); (case k2 => k_asm); (case kz => (rw [sizeLine_eq]; simp only [List.length_cons, List.length_nil]; omega)); k_whole); intro zlq zhq zFq zNq zl1; (try k_sweep)) | ((with_reducible show wpAny _ _ (call (Value.ref _) _) _ _ _); k_here; (with_reducible show wpAny _ _ (call (Value.ref 313) _) _ _ _); k_dflt (refine' MC.use2 (one_mc _ ?U ?hs ?hm ?hne ?hl ?hk) ?_; (case U => first | assumption | k_updF); (case hs => assumption); (case hm => k_mem); (case hne => k_ne); (case hl => exact rfl); (case hk => (constructor <;> (simp only [List.length_cons, List.length_nil]; omega))); intro zr9 znews9 zh9 ztk9 zF9 zN9 zhR9; obtain ⟨zi9, za9, zb9, zta9, ztb9, zn9, zhr9, zhs9, zel9⟩ := zhR9; subst zel9; obtain ⟨zx9, zu9, ze9, zhx9⟩ := pick_strs (by rfl) zhr9; subst ze9; clear zhr9; (try k_sweep); (try dsimp only); (try k_fold))) | ((with_reducible show wpAny _ _ (call (Value.ref _) _) _ _ _); k_here; (with_reducible show wpAny _ _ (call (Value.ref 306) _) _ _ _); k_dflt (refine' MC.use2 (take_use _ ?U ?hs ?ht) ?_; (case U => first | assumption | k_updF); (case hs => assumption); (case ht => first | assumption | decide); intro zr9 znews9 zh9 ztk9 zF9 zN9 zhR9; obtain ⟨zk9, zt9, za9, zb9, zta9, ztb9, zn9, ze9, zhlo9, zhhi9, zhs9, zel9⟩ := zhR9; subst ze9; subst zel9; (try k_sweep); (try dsimp only); (try k_fold))) | ((with_reducible show wpAny _ _ (compareOp CmpOp.NotIn (Value.str _ _) (Value.ref _)) _ _ _); k_here; (with_reducible show wpAny _ _ (compareOp CmpOp.NotIn (Value.str _ _) (Value.ref 82)) _ _ _); k_dflt (refine' topNotIn_tup (K := hd.heap_39 _) (ys := [Str.ofString "root", Str.ofString "element"]) (b := false) ?F ?X ?l ?S ?b ?_; (case F => k_asm); (case X => k_asm); (case l => k_is); (case S => exact .cons _ _ (.cons _ _ .nil)); (case b => decide +kernel))) | (walk1 <;> (try ((with_reducible show wpAny _ _ (exec _ _) _ _ _); k_fold))) | (dsimp only; walk1) | (leave1; (try dsimp only))))
      have hbh : ∀ p ∈ base, p.1 ≠ hh := fun p hp => Nat.ne_of_lt (hbl p hp)
      have hbd : ∀ p ∈ base, p.1 ≠ dd := fun p hp => Nat.ne_of_lt (Nat.lt_trans (hbl p hp) hdh)
      subst eb
      have IT9 := IT8.push (nr := nr) (nn := nn) (x := hh) (o := oh) hbh
      have IT10 := IT9.push (nr := nr) (nn := nn) (x := dd) (o := od9) (fun p hp => by
        rcases List.mem_cons.mp (treeL_in p hp) with rfl | hp
        · exact Nat.ne_of_lt hdh
        · exact hbd p hp)
      have N6 := News.sub N5 (subK (d := (dd, od9)) (h := (hh, oh)))
      have hbs' := memK IT10 (UpdF.keeps U hsd hne (srcObj a1 b1 ta1 tb1 n1))
      clear N5
      refine' MC.use2 (swithin_mc w IT10 hM5 hbs' Ts hl) ?_ (N := N6)
      intro r9 news9 h9' tk9 F9 N9 hR9
      obtain ⟨fd, fo, e9, Tf, el9⟩ := hR9
      subst e9
      subst news9
      clear N6
      repeat' ((fail_if_success (with_reducible show wpAny _ _ (compareOp _ _ _) _ _ _)); (first | (k_unfold; (try dsimp only)) | (k_end; wrow_close) | ((with_reducible show wpAny _ _ (setItem (Value.ref _) (Value.str _ _) _) _ _ _); k_here; k_dflt (refine tt_set (by k_asm) (by k_asm) (by k_updF) (by assumption) (by omega) ?_); intro zhq zoq zFq zNq zhTq; (try dsimp only at zNq)) | ((with_reducible show wpAny _ _ (call (Value.builtin "dict.get") _) _ _ _); k_here; k_dflt (refine tt_get2 (by k_asm) (by k_mem) (by assumption) ?_); intro ztq) | ((with_reducible show wpAny _ _ (getMethod (Value.ref _) _ _) _ _ _); k_here; (with_reducible show wpAny _ _ (getMethod (Value.ref _) (Str.ofString "get") _) _ _ _); k_dflt (refine tt_meth (by k_asm) (by k_mem) (by assumption) ?_)) | ((with_reducible show wpAny _ _ (call (Value.type _) _) _ _ _); k_here; (with_reducible show wpAny _ _ (call (Value.type "dict") [Value.ref _]) _ _ _); k_dflt (refine tt_dict (by k_asm) (by k_asm) (Top.nolimit (by k_asm)) (by k_mem) (by assumption) (by omega) ?_); intro zxq zhq zoq zFq zNq zl1 zT1; (try k_lt zl1)) | ((with_reducible show wpAny _ _ (newList _) _ _ _); k_here; k_dflt (refine' newList_K ?k1 ?k2 ?_ ?kz; (case k1 => k_asm); (case k2 => k_asm); (case kz => (rw [sizeLine_eq]; simp only [List.length_cons, List.length_nil]; omega)); k_whole); intro zlq zhq zFq zNq zl1; (try k_sweep)) | ((with_reducible show wpAny _ _ (call (Value.ref _) _) _ _ _); k_here; (with_reducible show wpAny _ _ (call (Value.ref 313) _) _ _ _); k_dflt (refine' MC.use2 (one_mc _ ?U ?hs ?hm ?hne ?hl ?hk) ?_; (case U => first | assumption | k_updF); (case hs => assumption); (case hm => k_mem); (case hne => k_ne); (case hl => exact rfl); (case hk => (constructor <;> (simp only [List.length_cons, List.length_nil]; omega))); intro zr9 znews9 zh9 ztk9 zF9 zN9 zhR9; obtain ⟨zi9, za9, zb9, zta9, ztb9, zn9, zhr9, zhs9, zel9⟩ := zhR9; subst zel9; obtain ⟨zx9, zu9, ze9, zhx9⟩ := pick_strs (by rfl) zhr9; subst ze9; clear zhr9; (try k_sweep); (try dsimp only); (try k_fold))) | ((with_reducible show wpAny _ _ (call (Value.ref _) _) _ _ _); k_here; (with_reducible show wpAny _ _ (call (Value.ref 306) _) _ _ _); k_dflt (refine' MC.use2 (take_use _ ?U ?hs ?ht) ?_; (case U => first | assumption | k_updF); (case hs => assumption); (case ht => first | assumption | decide); intro zr9 znews9 zh9 ztk9 zF9 zN9 zhR9; obtain ⟨zk9, zt9, za9, zb9, zta9, ztb9, zn9, ze9, zhlo9, zhhi9, zhs9, zel9⟩ := zhR9; subst ze9; subst zel9; (try k_sweep); (try dsimp only); (try k_fold))) | ((with_reducible show wpAny _ _ (compareOp CmpOp.NotIn (Value.str _ _) (Value.ref _)) _ _ _); k_here; (with_reducible show wpAny _ _ (compareOp CmpOp.NotIn (Value.str _ _) (Value.ref 82)) _ _ _); k_dflt (refine' topNotIn_tup (K := hd.heap_39 _) (ys := [Str.ofString "root", Str.ofString "element"]) (b := false) ?F ?X ?l ?S ?b ?_; (case F => k_asm); (case X => k_asm); (case l => k_is); (case S => exact .cons _ _ (.cons _ _ .nil)); (case b => decide +kernel))) | (walk1 <;> (try ((with_reducible show wpAny _ _ (exec _ _) _ _ _); k_fold))) | (dsimp only; walk1) | (leave1; (try dsimp only))))
      refine tt_eq N9 (.head _) (.tail _ (treeL_rest (.head _))) Tf hT (by ktr_units) ?_
      rw [hcd, within_eq hpsM (by have := IT8.pn; unfold pairs; rw [List.map_map]; exact this) hG hK Tf.nodup (by rw [← hcd]; exact hT.nodup)]
      repeat' ((fail_if_success (with_reducible show wpAny _ _ (compareOp _ _ _) _ _ _)); (first | (k_unfold; (try dsimp only)) | (k_end; wrow_close) | ((with_reducible show wpAny _ _ (setItem (Value.ref _) (Value.str _ _) _) _ _ _); k_here; k_dflt (refine tt_set (by k_asm) (by k_asm) (by k_updF) (by assumption) (by omega) ?_); intro zhq zoq zFq zNq zhTq; (try dsimp only at zNq)) | ((with_reducible show wpAny _ _ (call (Value.builtin "dict.get") _) _ _ _); k_here; k_dflt (refine tt_get2 (by k_asm) (by k_mem) (by assumption) ?_); intro ztq) | ((with_reducible show wpAny _ _ (getMethod (Value.ref _) _ _) _ _ _); k_here; (with_reducible show wpAny _ _ (getMethod (Value.ref _) (Str.ofString "get") _) _ _ _); k_dflt (refine tt_meth (by k_asm) (by k_mem) (by assumption) ?_)) | ((with_reducible show wpAny _ _ (call (Value.type _) _) _ _ _); k_here; (with_reducible show wpAny _ _ (call (Value.type "dict") [Value.ref _]) _ _ _); k_dflt (refine tt_dict (by k_asm) (by k_asm) (Top.nolimit (by k_asm)) (by k_mem) (by assumption) (by omega) ?_); intro zxq zhq zoq zFq zNq zl1 zT1; (try k_lt zl1)) | ((with_reducible show wpAny _ _ (newList _) _ _ _); k_here; k_dflt (refine' newList_K ?k1 ?k2 ?_ ?kz; (case k1 => k_asm); (case k2 => k_asm); (case kz => (rw [sizeLine_eq]; simp only [List.length_cons, List.length_nil]; omega)); k_whole); intro zlq zhq zFq zNq zl1; (try k_sweep)) | ((with_reducible show wpAny _ _ (call (Value.ref _) _) _ _ _); k_here; (with_reducible show wpAny _ _ (call (Value.ref 313) _) _ _ _); k_dflt (refine' MC.use2 (one_mc _ ?U ?hs ?hm ?hne ?hl ?hk) ?_; (case U => first | assumption | k_updF); (case hs => assumption); (case hm => k_mem); (case hne => k_ne); (case hl => exact rfl); (case hk => (constructor <;> (simp only [List.length_cons, List.length_nil]; omega))); intro zr9 znews9 zh9 ztk9 zF9 zN9 zhR9; obtain ⟨zi9, za9, zb9, zta9, ztb9, zn9, zhr9, zhs9, zel9⟩ := zhR9; subst zel9; obtain ⟨zx9, zu9, ze9, zhx9⟩ := pick_strs (by rfl) zhr9; subst ze9; clear zhr9; (try k_sweep); (try dsimp only); (try k_fold))) | ((with_reducible show wpAny _ _ (call (Value.ref _) _) _ _ _); k_here; (with_reducible show wpAny _ _ (call (Value.ref 306) _) _ _ _); k_dflt (refine' MC.use2 (take_use _ ?U ?hs ?ht) ?_; (case U => first | assumption | k_updF); (case hs => assumption); (case ht => first | assumption | decide); intro zr9 znews9 zh9 ztk9 zF9 zN9 zhR9; obtain ⟨zk9, zt9, za9, zb9, zta9, ztb9, zn9, ze9, zhlo9, zhhi9, zhs9, zel9⟩ := zhR9; subst ze9; subst zel9; (try k_sweep); (try dsimp only); (try k_fold))) | ((with_reducible show wpAny _ _ (compareOp CmpOp.NotIn (Value.str _ _) (Value.ref _)) _ _ _); k_here; (with_reducible show wpAny _ _ (compareOp CmpOp.NotIn (Value.str _ _) (Value.ref 82)) _ _ _); k_dflt (refine' topNotIn_tup (K := hd.heap_39 _) (ys := [Str.ofString "root", Str.ofString "element"]) (b := false) ?F ?X ?l ?S ?b ?_; (case F => k_asm); (case X => k_asm); (case l => k_is); (case S => exact .cons _ _ (.cons _ _ .nil)); (case b => decide +kernel))) | (walk1 <;> (try ((with_reducible show wpAny _ _ (exec _ _) _ _ _); k_fold))) | (dsimp only; walk1) | (leave1; (try dsimp only))))
      refine tt_eq N9 (.tail _ (treeL_rest hbs')) (.tail _ (treeL_rest (.tail _ (.head _)))) Ts Th (by ktr_units) ?_
      rw [sameD_refl Ts.nodup]
      repeat' (first | (k_unfold; (try dsimp only)) | (k_end; wrow_close) | ((with_reducible show wpAny _ _ (setItem (Value.ref _) (Value.str _ _) _) _ _ _); k_here; k_dflt (refine tt_set (by k_asm) (by k_asm) (by k_updF) (by assumption) (by omega) ?_); intro zhq zoq zFq zNq zhTq; (try dsimp only at zNq)) | ((with_reducible show wpAny _ _ (call (Value.builtin "dict.get") _) _ _ _); k_here; k_dflt (refine tt_get2 (by k_asm) (by k_mem) (by assumption) ?_); intro ztq) | ((with_reducible show wpAny _ _ (getMethod (Value.ref _) _ _) _ _ _); k_here; (with_reducible show wpAny _ _ (getMethod (Value.ref _) (Str.ofString "get") _) _ _ _); k_dflt (refine tt_meth (by k_asm) (by k_mem) (by assumption) ?_)) | ((with_reducible show wpAny _ _ (call (Value.type _) _) _ _ _); k_here; (with_reducible show wpAny _ _ (call (Value.type "dict") [Value.ref _]) _ _ _); k_dflt (refine tt_dict (by k_asm) (by k_asm) (Top.nolimit (by k_asm)) (by k_mem) (by assumption) (by omega) ?_); intro zxq zhq zoq zFq zNq zl1 zT1; (try k_lt zl1)) | ((with_reducible show wpAny _ _ (newList _) _ _ _); k_here; k_dflt (refine' newList_K ?k1 ?k2 ?_ ?kz; (case k1 => k_asm); (case k2 => k_asm); (case kz => (rw [sizeLine_eq]; simp only [List.length_cons, List.length_nil]; omega)); k_whole); intro zlq zhq zFq zNq zl1; (try k_sweep)) | ((with_reducible show wpAny _ _ (call (Value.ref _) _) _ _ _); k_here; (with_reducible show wpAny _ _ (call (Value.ref 313) _) _ _ _); k_dflt (refine' MC.use2 (one_mc _ ?U ?hs ?hm ?hne ?hl ?hk) ?_; (case U => first | assumption | k_updF); (case hs => assumption); (case hm => k_mem); (case hne => k_ne); (case hl => exact rfl); (case hk => (constructor <;> (simp only [List.length_cons, List.length_nil]; omega))); intro zr9 znews9 zh9 ztk9 zF9 zN9 zhR9; obtain ⟨zi9, za9, zb9, zta9, ztb9, zn9, zhr9, zhs9, zel9⟩ := zhR9; subst zel9; obtain ⟨zx9, zu9, ze9, zhx9⟩ := pick_strs (by rfl) zhr9; subst ze9; clear zhr9; (try k_sweep); (try dsimp only); (try k_fold))) | ((with_reducible show wpAny _ _ (call (Value.ref _) _) _ _ _); k_here; (with_reducible show wpAny _ _ (call (Value.ref 306) _) _ _ _); k_dflt (refine' MC.use2 (take_use _ ?U ?hs ?ht) ?_; (case U => first | assumption | k_updF); (case hs => assumption); (case ht => first | assumption | decide); intro zr9 znews9 zh9 ztk9 zF9 zN9 zhR9; obtain ⟨zk9, zt9, za9, zb9, zta9, ztb9, zn9, ze9, zhlo9, zhhi9, zhs9, zel9⟩ := zhR9; subst ze9; subst zel9; (try k_sweep); (try dsimp only); (try k_fold))) | ((with_reducible show wpAny _ _ (compareOp CmpOp.NotIn (Value.str _ _) (Value.ref _)) _ _ _); k_here; (with_reducible show wpAny _ _ (compareOp CmpOp.NotIn (Value.str _ _) (Value.ref 82)) _ _ _); k_dflt (refine' topNotIn_tup (K := hd.heap_39 _) (ys := [Str.ofString "root", Str.ofString "element"]) (b := false) ?F ?X ?l ?S ?b ?_; (case F => k_asm); (case X => k_asm); (case l => k_is); (case S => exact .cons _ _ (.cons _ _ .nil)); (case b => decide +kernel))) | (walk1 <;> (try ((with_reducible show wpAny _ _ (exec _ _) _ _ _); k_fold))) | (dsimp only; walk1) | (leave1; (try dsimp only)))
      exact hret _ _ _ _ (by k_asm) (News.sub (by k_asm) fun p hp => .tail _ (treeL_rest (.tail _ (.tail _ (.tail _ (List.mem_append_right _ (.tail _ (.tail _ (.tail _ (.tail _ hp)))))))))) ⟨a1, b1, ta1, tb1, n1, rfl, hs2', rfl⟩
end
section
theorem off_XLW : True := by
  w_top off
  trivial
open PySem.Calls
theorem told_first {ss : List Str} (hP : ss.Perm [Str.ofString "xml", Str.ofString "p"]) :
    ss.foldl (tstep [(Str.ofString "xml", Str.ofString "w"), (Str.ofString "p", Str.ofString "u")] [(Str.ofString "", Str.ofString "u")]) (tbase [(Str.ofString "xml", Str.ofString "w"), (Str.ofString "p", Str.ofString "u")] [(Str.ofString "", Str.ofString "u")]) = Str.ofString " xmlns=\"\" xmlns:p=\"u\"" := by
  have : ss = [Str.ofString "xml", Str.ofString "p"] ∨ ss = [Str.ofString "p", Str.ofString "xml"] := by
    have hl := hP.length_eq
    match ss, hl, hP with
    | [a, b], _, hP =>
      have ha : a ∈ [Str.ofString "xml", Str.ofString "p"] := hP.subset (.head _)
      simp only [List.mem_cons, List.not_mem_nil, or_false] at ha
      rcases ha with rfl | rfl
      · have := hP.cons_inv
        rw [List.singleton_perm_singleton.mp this]; exact .inl rfl
      · have := (hP.trans (List.Perm.swap _ _ _)).cons_inv
        rw [List.singleton_perm_singleton.mp this]; exact .inr rfl
  rcases this with rfl | rfl <;> decide +kernel
theorem goodT_first : GoodT [(Str.ofString "xml", Str.ofString "w"), (Str.ofString "p", Str.ofString "u")] := by
  intro p hp
  simp only [List.mem_cons, List.not_mem_nil, or_false] at hp
  rcases hp with rfl | rfl
  · exact ⟨by simp [K5], by simp [V5], .inl rfl⟩
  · exact ⟨by simp [K5], by simp [V5], .inr (by simp [V4])⟩
theorem nmG {w : World} {P : Prop} {h₀ h : Heap} {L lq x d2 d1 sd : Addr} {ol ox o2 o1 so : Obj} {cs c1 c2 : Prs} {l : Led} (N : News h₀ L h ((lq, ol) :: (x, ox) :: (d2, o2) :: (d1, o1) :: (sd, so) :: l)) (Ts : TT w sd so cs) (T1 : TT w d1 o1 c1) (T2 : TT w d2 o2 c2)
    (k : ∀ lq' x' d2' d1' sd' ox' o2' o1' so' cs' c1' c2', lq' = lq → x' = x → d2' = d2 → d1' = d1 → sd' = sd → ox' = ox → o2' = o2 → o1' = o1 → so' = so → cs' = cs → c1' = c1 → c2' = c2 → P) : P := k _ _ _ _ _ _ _ _ _ _ _ _ rfl rfl rfl rfl rfl rfl rfl rfl rfl rfl rfl rfl
theorem pick3 {a b c r : Value} {i : Nat} (h : [a, b, c][i]? = some r) : r = a ∨ r = b ∨ r = c := by
  have := List.mem_of_getElem? h
  simpa using this
theorem ne_of_lt1 {x d : Addr} {o : Obj} {l : Led} (h : ∀ p ∈ l, p.1 < x) (hm : (d, o) ∈ l) : d ≠ x := Nat.ne_of_lt (h _ hm)
theorem lawd : PySem.Challenge.rw_xm0663_01.Holds := by
  refine Mine.hd ?_
  k_go0
  have mk0 : Mk 0 := .on 0
  have mk1 : Mk 1 := .on 1
  all_goals (try k_fold)
  repeat' ((fail_if_success (with_reducible show wpAny _ _ (call (Value.ref 42) _) _ _ _)); (first | (k_unfold; (try dsimp only)) | (k_end; wrow_close) | (walk1 <;> (try ((with_reducible show wpAny _ _ (exec _ _) _ _ _); k_fold))) | (dsimp only; walk1) | (leave1; (try dsimp only))))
  rename News _ _ _ (_ :: _ :: []) => N3
  refine' MC.use (told_mc _ (.tail _ (.head _)) (.head _) (cs := [(Str.ofString "xml", Str.ofString "w"), (Str.ofString "p", Str.ofString "u")]) (ck := [(Str.ofString "", Str.ofString "u")]) ?Ts ?Tk goodT_first (by decide)) ?k1 ?k2 ?k3 N3 ?k5 ?k6 ?k7 ?k8 ?_
  case Ts => exact ⟨by assumption, _, by assumption, .cons (.cons .nil)⟩
  case Tk => exact ⟨by assumption, _, by assumption, .cons .nil⟩
  case k1 => k_asm
  case k2 => k_asm
  case k3 => k_asm
  case k5 => k_asm
  case k6 => first | exact rfl | assumption
  case k7 => ktr_room
  case k8 => ktr_units
  intro r9 news9 h9 tk9 F9 N9 hR9
  obtain ⟨t9, ss, e9, hP, hsr, el9⟩ := hR9
  rw [told_first hP] at e9
  subst e9
  subst news9
  repeat' ((fail_if_success (with_reducible show wpAny _ _ (compareOp _ _ _) _ _ _)); (first | (k_unfold; (try dsimp only)) | (k_end; wrow_close) | (walk1 <;> (try ((with_reducible show wpAny _ _ (exec _ _) _ _ _); k_fold))) | (dsimp only; walk1) | (leave1; (try dsimp only)) | fail "no step"))
  refine ne_str_same rfl ?_
  repeat' ((fail_if_success (with_reducible show wpAny _ _ (call (Value.ref 299) _) _ _ _)); (first | (k_unfold; (try dsimp only)) | (k_end; wrow_close) | (walk1 <;> (try ((with_reducible show wpAny _ _ (exec _ _) _ _ _); k_fold))) | (dsimp only; walk1) | (leave1; (try dsimp only))))
  rename News _ _ _ [_, _] => N3
  refine' pool_use ?hL ?hI ?hlen ?k1 ?k2 ?k3 (News.sub (l' := []) N3 (fun _ h => nomatch h)) ?k5 ?k6 ?k7 ?k8 ?_
  case hL => assumption
  case hI => assumption
  case hlen => omega
  case k1 => k_asm
  case k2 => k_asm
  case k3 => k_asm
  case k5 => k_asm
  case k6 => first | exact rfl | assumption
  case k7 => ktr_room
  case k8 => ktr_units
  intro src a9 b9 ta9 tb9 n9 h9 tk9 F9 N9 l9 hs9
  clear N3
  repeat' ((fail_if_success (with_reducible show wpAny _ _ (pyIter (Value.ref _)) _ _ _)); (first | (k_unfold; (try dsimp only)) | (k_end; wrow_close) | (walk1 <;> (try ((with_reducible show wpAny _ _ (exec _ _) _ _ _); k_fold))) | (dsimp only; walk1) | (leave1; (try dsimp only))))
  clear mk1
  rename IsRange _ _ _ _ _ _ _ _ => hR
  rename Fr _ _ _ _ => F1
  rename News _ _ _ _ => N1
  refine range_inv (n := 2) [Str.ofString "scope", Str.ofString "known", Str.ofString "held"] (fun i _ nx => ∃ (a b : Int) (ta tb : Tok) (n : Nat), Src a b ∧ nx = [(src, srcObj a b ta tb n)]) (by rfl) hR (by decide) (by decide) F1 N1 ⟨_, _, _, _, _, hs9, rfl⟩ ?turn ?done
  case turn =>
    intro I9 i u t h tk nx it hi hJ hI F2 N2
    obtain ⟨a2, b2, ta2, tb2, n2, hs2, rfl⟩ := hJ
    clear hR F1 N1 hs9
    repeat' ((fail_if_success (with_reducible show wpAny _ _ (call (Value.ref 313) _) _ _ _)); (first | (k_unfold; (try dsimp only)) | (k_end; wrow_close) | ((with_reducible show wpAny _ _ (call (Value.ref _) _) _ _ _); k_here; (with_reducible show wpAny _ _ (call (Value.ref 320) _) _ _ _); k_dflt (refine' MC.use2 (scope_mc _ ?U ?hs) ?_; (case U => k_updF); (case hs => assumption); intro zr9 znews9 zh9 ztk9 zF9 zN9 zhR9; obtain ⟨zd9, zo9, zc9, za9, zb9, zta9, ztb9, zn9, ze9, zT9, zG9, zlen9, zl9, zhs9, zel9⟩ := zhR9; subst ze9; subst zel9; (try k_sweep); (try dsimp only at zN9); (try dsimp only); (try k_fold))) | ((with_reducible show wpAny _ _ (newList _) _ _ _); k_here; k_dflt (refine' newList_K ?k1 ?k2 ?_ ?kz; (case k1 => k_asm); (case k2 => k_asm); (case kz => (rw [sizeLine_eq]; simp only [List.length_cons, List.length_nil]; omega)); k_whole); intro zlq zhq zFq zNq zl1; (try k_sweep)) | ((with_reducible show wpAny _ _ (call (Value.type _) _) _ _ _); k_here; (with_reducible show wpAny _ _ (call (Value.type "dict") [Value.ref _]) _ _ _); k_dflt (refine tt_dict (by k_asm) (by k_asm) (Top.nolimit (by k_asm)) (by k_mem) (by assumption) (by omega) ?_); intro zxq zhq zoq zFq zNq zl1 zT1) | (walk1 <;> (try ((with_reducible show wpAny _ _ (exec _ _) _ _ _); k_fold))) | (dsimp only; walk1) | (leave1; (try dsimp only))))
    rename News _ _ _ (_ :: _ :: _ :: _ :: _ :: _) => N3
    refine nmG N3 (by assumption) (by assumption) (by assumption) fun lq x d2 d1 sd ox o2 o1 so cs c1 c2 z1 z2 z3 z4 z5 z6 z7 z8 z9 z10 z11 z12 => ?_
    subst z1; subst z2; subst z3; subst z4; subst z5; subst z6; subst z7; subst z8; subst z9; subst z10; subst z11; subst z12
    rename TT _ sd so cs => Ts
    rename TT _ d1 o1 c1 => T1
    rename TT _ d2 o2 c2 => T2
    rename TT _ x ox cs => Tx
    rename Good cs => Gs
    rename Good c1 => G1
    rename Good c2 => G2
    have ls5 : cs.length ≤ 5 := by assumption
    have l15 : c1.length ≤ 5 := by assumption
    have l25 : c2.length ≤ 5 := by assumption
    have hsne : sd ≠ src := by k_ne
    have hIne : I9 ≠ src := Ne.symm (hI _ (.head _))
    refine' MC.use (one_mc _ ?U ?hs (.head _) ?hne (k := 3) rfl (by decide)) ?k1 ?k2 ?k3 N3 ?k5 ?k6 ?k7 ?k8 ?_
    case U => k_updF
    case hs => assumption
    case hne => k_ne
    case k1 => k_asm
    case k2 => k_asm
    case k3 => k_asm
    case k5 => k_asm
    case k6 => first | exact rfl | assumption
    case k7 => ktr_room
    case k8 => ktr_units
    intro r9 news9 h9 tk9 F9 N9 hR9
    obtain ⟨i9, a9, b9, ta9, tb9, n9, hr9, hs9, el9⟩ := hR9
    obtain ⟨kd, ko, ck, er, hkm, Tk, Gk, lk5⟩ : ∃ kd ko ck, r9 = .ref kd ∧ (kd, ko) ∈ news9 ∧ TT _ kd ko ck ∧ Good ck ∧ ck.length ≤ 5 := by
      rw [el9]
      rcases pick3 hr9 with e | e | e
      · exact ⟨d1, o1, c1, e, .tail _ (.tail _ (.tail _ (.head _))), T1, G1, l15⟩
      · exact ⟨d2, o2, c2, e, .tail _ (.tail _ (.head _)), T2, G2, l25⟩
      · exact ⟨x, ox, cs, e, .tail _ (.head _), Tx, Gs, ls5⟩
    subst er
    have hsm : (sd, so) ∈ news9 := by rw [el9]; exact .tail _ (.tail _ (.tail _ (.tail _ (.head _))))
    have hIm : (I9, it) ∈ news9 := by rw [el9]; exact .tail _ (.tail _ (.tail _ (.tail _ (.tail _ (.head _)))))
    obtain ⟨g9, U9⟩ : ∃ g9, UpdF src (srcObj a9 b9 ta9 tb9 n9) news9 g9 := by
      rw [el9]
      exact ⟨_, by k_updF⟩
    clear el9 N3 hr9
    clear mk0
    repeat' ((fail_if_success (with_reducible show wpAny _ _ (compareOp _ _ _) _ _ _)); (first | (k_unfold; (try dsimp only)) | (k_end; wrow_close) | ((with_reducible show wpAny _ _ (call (Value.ref _) _) _ _ _); k_here; (with_reducible show wpAny _ _ (call (Value.ref 327) _) _ _ _); k_dflt (refine' MC.use2 (ltold_mc _ ?h1 ?h2 ?h3 ?h4 ?h5 ?h6) ?_; (case h1 => k_mem); (case h2 => k_mem); (case h3 => assumption); (case h4 => assumption); (case h5 => assumption); (case h6 => assumption); intro zr9 znews9 zh9 ztk9 zF9 zN9 zhR9; obtain ⟨zt9, ze9, zel9⟩ := zhR9; subst ze9; subst znews9; (try k_sweep); (try dsimp only); (try k_fold))) | ((with_reducible show wpAny _ _ (call (Value.ref _) _) _ _ _); k_here; (with_reducible show wpAny _ _ (call (Value.ref 42) _) _ _ _); k_dflt (refine' MC.use2 (told_mc _ ?h1 ?h2 ?h3 ?h4 ?h5 ?h6) ?_; (case h1 => k_mem); (case h2 => k_mem); (case h3 => assumption); (case h4 => assumption); (case h5 => exact Good.toT (by assumption)); (case h6 => assumption); intro zr9 znews9 zh9 ztk9 zF9 zN9 zhR9; obtain ⟨zt9, zss9, ze9, zhP9, zhsr9, zel9⟩ := zhR9; subst ze9; subst znews9; (try k_sweep); (try dsimp only); (try k_fold))) | ((with_reducible show wpAny _ _ (call (Value.ref _) _) _ _ _); k_here; (with_reducible show wpAny _ _ (call (Value.ref 320) _) _ _ _); k_dflt (refine' MC.use2 (scope_mc _ ?U ?hs) ?_; (case U => k_updF); (case hs => assumption); intro zr9 znews9 zh9 ztk9 zF9 zN9 zhR9; obtain ⟨zd9, zo9, zc9, za9, zb9, zta9, ztb9, zn9, ze9, zT9, zG9, zlen9, zl9, zhs9, zel9⟩ := zhR9; subst ze9; subst zel9; (try k_sweep); (try dsimp only at zN9); (try dsimp only); (try k_fold))) | ((with_reducible show wpAny _ _ (newList _) _ _ _); k_here; k_dflt (refine' newList_K ?k1 ?k2 ?_ ?kz; (case k1 => k_asm); (case k2 => k_asm); (case kz => (rw [sizeLine_eq]; simp only [List.length_cons, List.length_nil]; omega)); k_whole); intro zlq zhq zFq zNq zl1; (try k_sweep)) | ((with_reducible show wpAny _ _ (call (Value.type _) _) _ _ _); k_here; (with_reducible show wpAny _ _ (call (Value.type "dict") [Value.ref _]) _ _ _); k_dflt (refine tt_dict (by k_asm) (by k_asm) (Top.nolimit (by k_asm)) (by k_mem) (by assumption) (by omega) ?_); intro zxq zhq zoq zFq zNq zl1 zT1) | (walk1 <;> (try ((with_reducible show wpAny _ _ (exec _ _) _ _ _); k_fold))) | (dsimp only; walk1) | (leave1; (try dsimp only))))
    (try k_unfold)
    (try dsimp only)
    rename List.Perm _ _ => hP9
    rename sortedS _ = true => hsr9
    refine ne_str_same (told_eq Gs Ts.nodup hP9 hsr9) ?_
    repeat' ((fail_if_success (with_reducible show wpAny _ _ (compareOp _ _ _) _ _ _)); (first | (k_unfold; (try dsimp only)) | (k_end; wrow_close) | ((with_reducible show wpAny _ _ (call (Value.ref _) _) _ _ _); k_here; (with_reducible show wpAny _ _ (call (Value.ref 327) _) _ _ _); k_dflt (refine' MC.use2 (ltold_mc _ ?h1 ?h2 ?h3 ?h4 ?h5 ?h6) ?_; (case h1 => k_mem); (case h2 => k_mem); (case h3 => assumption); (case h4 => assumption); (case h5 => assumption); (case h6 => assumption); intro zr9 znews9 zh9 ztk9 zF9 zN9 zhR9; obtain ⟨zt9, ze9, zel9⟩ := zhR9; subst ze9; subst znews9; (try k_sweep); (try dsimp only); (try k_fold))) | ((with_reducible show wpAny _ _ (call (Value.ref _) _) _ _ _); k_here; (with_reducible show wpAny _ _ (call (Value.ref 42) _) _ _ _); k_dflt (refine' MC.use2 (told_mc _ ?h1 ?h2 ?h3 ?h4 ?h5 ?h6) ?_; (case h1 => k_mem); (case h2 => k_mem); (case h3 => assumption); (case h4 => assumption); (case h5 => exact Good.toT (by assumption)); (case h6 => assumption); intro zr9 znews9 zh9 ztk9 zF9 zN9 zhR9; obtain ⟨zt9, zss9, ze9, zhP9, zhsr9, zel9⟩ := zhR9; subst ze9; subst znews9; (try k_sweep); (try dsimp only); (try k_fold))) | ((with_reducible show wpAny _ _ (call (Value.ref _) _) _ _ _); k_here; (with_reducible show wpAny _ _ (call (Value.ref 320) _) _ _ _); k_dflt (refine' MC.use2 (scope_mc _ ?U ?hs) ?_; (case U => k_updF); (case hs => assumption); intro zr9 znews9 zh9 ztk9 zF9 zN9 zhR9; obtain ⟨zd9, zo9, zc9, za9, zb9, zta9, ztb9, zn9, ze9, zT9, zG9, zlen9, zl9, zhs9, zel9⟩ := zhR9; subst ze9; subst zel9; (try k_sweep); (try dsimp only at zN9); (try dsimp only); (try k_fold))) | ((with_reducible show wpAny _ _ (newList _) _ _ _); k_here; k_dflt (refine' newList_K ?k1 ?k2 ?_ ?kz; (case k1 => k_asm); (case k2 => k_asm); (case kz => (rw [sizeLine_eq]; simp only [List.length_cons, List.length_nil]; omega)); k_whole); intro zlq zhq zFq zNq zl1; (try k_sweep)) | ((with_reducible show wpAny _ _ (call (Value.type _) _) _ _ _); k_here; (with_reducible show wpAny _ _ (call (Value.type "dict") [Value.ref _]) _ _ _); k_dflt (refine tt_dict (by k_asm) (by k_asm) (Top.nolimit (by k_asm)) (by k_mem) (by assumption) (by omega) ?_); intro zxq zhq zoq zFq zNq zl1 zT1) | (walk1 <;> (try ((with_reducible show wpAny _ _ (exec _ _) _ _ _); k_fold))) | (dsimp only; walk1) | (leave1; (try dsimp only))))
    rename News _ _ _ (_ :: _ :: _ :: _ :: news9) => N8
    refine' tups_ne (N8.get (.head _)) (N8.get (.tail _ (.head _))) ?e1 ?e2 ?hu ?_
    case e1 =>
      refine eqIn_tt N8 (.tail _ (.tail _ (.tail _ (.tail _ hsm)))) (.tail _ (.tail _ (.tail _ (.head _)))) ?_ Ts (by assumption) ?_
      · exact ne_of_lt1 (by assumption) hsm
      · ktr_units
    case e2 =>
      refine eqIn_tt N8 (.tail _ (.tail _ (.tail _ (.tail _ hkm)))) (.tail _ (.tail _ (.head _))) ?_ Tk (by assumption) ?_
      · exact ne_of_lt1 (by assumption) (.tail _ hkm)
      · ktr_units
    case hu => ktr_units
    have N10 := News.sub N8 (fun p hp => .tail _ (.tail _ (.tail _ (.tail _ hp))))
    clear N8
    repeat' ((fail_if_success (with_reducible show wpAny _ _ (call (Value.ref 332) _) _ _ _)); (first | (k_unfold; (try dsimp only)) | (k_end; wrow_close) | ((with_reducible show wpAny _ _ (call (Value.ref _) _) _ _ _); k_here; (with_reducible show wpAny _ _ (call (Value.ref 327) _) _ _ _); k_dflt (refine' MC.use2 (ltold_mc _ ?h1 ?h2 ?h3 ?h4 ?h5 ?h6) ?_; (case h1 => k_mem); (case h2 => k_mem); (case h3 => assumption); (case h4 => assumption); (case h5 => assumption); (case h6 => assumption); intro zr9 znews9 zh9 ztk9 zF9 zN9 zhR9; obtain ⟨zt9, ze9, zel9⟩ := zhR9; subst ze9; subst znews9; (try k_sweep); (try dsimp only); (try k_fold))) | ((with_reducible show wpAny _ _ (call (Value.ref _) _) _ _ _); k_here; (with_reducible show wpAny _ _ (call (Value.ref 42) _) _ _ _); k_dflt (refine' MC.use2 (told_mc _ ?h1 ?h2 ?h3 ?h4 ?h5 ?h6) ?_; (case h1 => k_mem); (case h2 => k_mem); (case h3 => assumption); (case h4 => assumption); (case h5 => exact Good.toT (by assumption)); (case h6 => assumption); intro zr9 znews9 zh9 ztk9 zF9 zN9 zhR9; obtain ⟨zt9, zss9, ze9, zhP9, zhsr9, zel9⟩ := zhR9; subst ze9; subst znews9; (try k_sweep); (try dsimp only); (try k_fold))) | ((with_reducible show wpAny _ _ (call (Value.ref _) _) _ _ _); k_here; (with_reducible show wpAny _ _ (call (Value.ref 320) _) _ _ _); k_dflt (refine' MC.use2 (scope_mc _ ?U ?hs) ?_; (case U => k_updF); (case hs => assumption); intro zr9 znews9 zh9 ztk9 zF9 zN9 zhR9; obtain ⟨zd9, zo9, zc9, za9, zb9, zta9, ztb9, zn9, ze9, zT9, zG9, zlen9, zl9, zhs9, zel9⟩ := zhR9; subst ze9; subst zel9; (try k_sweep); (try dsimp only at zN9); (try dsimp only); (try k_fold))) | ((with_reducible show wpAny _ _ (newList _) _ _ _); k_here; k_dflt (refine' newList_K ?k1 ?k2 ?_ ?kz; (case k1 => k_asm); (case k2 => k_asm); (case kz => (rw [sizeLine_eq]; simp only [List.length_cons, List.length_nil]; omega)); k_whole); intro zlq zhq zFq zNq zl1; (try k_sweep)) | ((with_reducible show wpAny _ _ (call (Value.type _) _) _ _ _); k_here; (with_reducible show wpAny _ _ (call (Value.type "dict") [Value.ref _]) _ _ _); k_dflt (refine tt_dict (by k_asm) (by k_asm) (Top.nolimit (by k_asm)) (by k_mem) (by assumption) (by omega) ?_); intro zxq zhq zoq zFq zNq zl1 zT1) | (walk1 <;> (try ((with_reducible show wpAny _ _ (exec _ _) _ _ _); k_fold))) | (dsimp only; walk1) | (leave1; (try dsimp only))))
    refine' MC.use2 (within_mc _ U9 hs9 hsm hsne Ts Gs ls5) ?_
    intro r8 news8 h8 tk8 F8 N8 hR8
    obtain ⟨a8, b8, ta8, tb8, n8, e8, hs8, el8⟩ := hR8
    subst e8
    rw [el8] at N8
    have hI8 := UpdF.keeps U9 hIm hIne (srcObj a8 b8 ta8 tb8 n8)
    have hS8 := UpdF.self U9 (srcObj a8 b8 ta8 tb8 n8)
    clear el8
    repeat' (first | (k_unfold; (try dsimp only)) | (k_end; wrow_close) | ((with_reducible show wpAny _ _ (call (Value.ref _) _) _ _ _); k_here; (with_reducible show wpAny _ _ (call (Value.ref 327) _) _ _ _); k_dflt (refine' MC.use2 (ltold_mc _ ?h1 ?h2 ?h3 ?h4 ?h5 ?h6) ?_; (case h1 => k_mem); (case h2 => k_mem); (case h3 => assumption); (case h4 => assumption); (case h5 => assumption); (case h6 => assumption); intro zr9 znews9 zh9 ztk9 zF9 zN9 zhR9; obtain ⟨zt9, ze9, zel9⟩ := zhR9; subst ze9; subst znews9; (try k_sweep); (try dsimp only); (try k_fold))) | ((with_reducible show wpAny _ _ (call (Value.ref _) _) _ _ _); k_here; (with_reducible show wpAny _ _ (call (Value.ref 42) _) _ _ _); k_dflt (refine' MC.use2 (told_mc _ ?h1 ?h2 ?h3 ?h4 ?h5 ?h6) ?_; (case h1 => k_mem); (case h2 => k_mem); (case h3 => assumption); (case h4 => assumption); (case h5 => exact Good.toT (by assumption)); (case h6 => assumption); intro zr9 znews9 zh9 ztk9 zF9 zN9 zhR9; obtain ⟨zt9, zss9, ze9, zhP9, zhsr9, zel9⟩ := zhR9; subst ze9; subst znews9; (try k_sweep); (try dsimp only); (try k_fold))) | ((with_reducible show wpAny _ _ (call (Value.ref _) _) _ _ _); k_here; (with_reducible show wpAny _ _ (call (Value.ref 320) _) _ _ _); k_dflt (refine' MC.use2 (scope_mc _ ?U ?hs) ?_; (case U => k_updF); (case hs => assumption); intro zr9 znews9 zh9 ztk9 zF9 zN9 zhR9; obtain ⟨zd9, zo9, zc9, za9, zb9, zta9, ztb9, zn9, ze9, zT9, zG9, zlen9, zl9, zhs9, zel9⟩ := zhR9; subst ze9; subst zel9; (try k_sweep); (try dsimp only at zN9); (try dsimp only); (try k_fold))) | ((with_reducible show wpAny _ _ (newList _) _ _ _); k_here; k_dflt (refine' newList_K ?k1 ?k2 ?_ ?kz; (case k1 => k_asm); (case k2 => k_asm); (case kz => (rw [sizeLine_eq]; simp only [List.length_cons, List.length_nil]; omega)); k_whole); intro zlq zhq zFq zNq zl1; (try k_sweep)) | ((with_reducible show wpAny _ _ (call (Value.type _) _) _ _ _); k_here; (with_reducible show wpAny _ _ (call (Value.type "dict") [Value.ref _]) _ _ _); k_dflt (refine tt_dict (by k_asm) (by k_asm) (Top.nolimit (by k_asm)) (by k_mem) (by assumption) (by omega) ?_); intro zxq zhq zoq zFq zNq zl1 zT1) | (walk1 <;> (try ((with_reducible show wpAny _ _ (exec _ _) _ _ _); k_fold))) | (dsimp only; walk1) | (leave1; (try dsimp only)))
    refine LPost.next (by k_asm) N8 [(src, srcObj a8 b8 ta8 tb8 n8)] (fun q hq => ?_) (fun q hq => ?_) ⟨⟨a8, b8, ta8, tb8, n8, hs8, rfl⟩, fun z h1 h2 => ?_⟩
    · rcases List.mem_cons.mp hq with rfl | hq
      · exact hI8
      · rw [List.mem_singleton.mp hq]; exact hS8
    · rw [List.mem_singleton.mp hq]; exact hI (src, srcObj a2 b2 ta2 tb2 n2) (.head _)
    · obtain ⟨h3, h4⟩ := contains_f h2
      obtain ⟨h5, h6⟩ := contains_f h4
      obtain ⟨h7, _⟩ := contains_f h6
      simp only [if_neg h1, if_neg h3, if_neg h5, if_neg h7, h2, Bool.false_eq_true, if_false]
  case done =>
    intro u nx h tk hJ F2 N2
    obtain ⟨a2, b2, ta2, tb2, n2, hs2, rfl⟩ := hJ
    clear hR F1 N1 hs9
    repeat' (first | (k_unfold; (try dsimp only)) | (k_end; wrow_close) | ((with_reducible show wpAny _ _ (call (Value.ref _) _) _ _ _); k_here; (with_reducible show wpAny _ _ (call (Value.ref 320) _) _ _ _); k_dflt (refine' MC.use2 (scope_mc _ ?U ?hs) ?_; (case U => k_updF); (case hs => assumption); intro zr9 znews9 zh9 ztk9 zF9 zN9 zhR9; obtain ⟨zd9, zo9, zc9, za9, zb9, zta9, ztb9, zn9, ze9, zT9, zG9, zlen9, zl9, zhs9, zel9⟩ := zhR9; subst ze9; subst zel9; (try k_sweep); (try dsimp only at zN9); (try dsimp only); (try k_fold))) | ((with_reducible show wpAny _ _ (newList _) _ _ _); k_here; k_dflt (refine' newList_K ?k1 ?k2 ?_ ?kz; (case k1 => k_asm); (case k2 => k_asm); (case kz => (rw [sizeLine_eq]; simp only [List.length_cons, List.length_nil]; omega)); k_whole); intro zlq zhq zFq zNq zl1; (try k_sweep)) | ((with_reducible show wpAny _ _ (call (Value.type _) _) _ _ _); k_here; (with_reducible show wpAny _ _ (call (Value.type "dict") [Value.ref _]) _ _ _); k_dflt (refine tt_dict (by k_asm) (by k_asm) (Top.nolimit (by k_asm)) (by k_mem) (by assumption) (by omega) ?_); intro zxq zhq zoq zFq zNq zl1 zT1) | (walk1 <;> (try ((with_reducible show wpAny _ _ (exec _ _) _ _ _); k_fold))) | (dsimp only; walk1) | (leave1; (try dsimp only)))
    (all_goals (try k_data))
    all_goals w_report
end
end Mine
theorem PySem.Challenge.cw_xm0663_01_holds : PySem.Challenge.rw_xm0663_01.Holds := by
  exact Mine.lawd
