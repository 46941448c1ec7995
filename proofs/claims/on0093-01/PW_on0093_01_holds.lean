import PyProof.Rows.All
import Wide.All
import OpenK.AllK
import Wide.FinOn
import PySem.Challenge.RW_on0093_01
set_option Elab.async false
set_option compiler.extract_closed false
namespace Mine
open PySem PySem.W PyProof.Rows
noncomputable def kept : Stmt → Bool
  | .Assign _ _ _ => false
  | _ => true
noncomputable def view : Program := { PySem.Challenge.pw_on0093_01 with main := { PySem.Challenge.pw_on0093_01.main with body := PySem.Challenge.pw_on0093_01.main.body.filter kept } }
noncomputable def runF (st : SharedT → Thread → Option (SharedT × Thread)) (ok : Thread → Bool) : Nat → SharedT → Thread → Option SharedT
  | 0, _, _ => none
  | n + 1, s, t => match through t with
    | true => some s
    | false => match ok t with
      | false => none
      | true => match st s t with
        | some (s', t') => runF st ok n s' t'
        | none => none
theorem runF_of {tb : String → Option Builtin} {p : Program} {w : World} {n₀ : Nat} {ann : Option Value} : ∀ {n : Nat} {s s' : SharedT} {t : Thread}, runF (stepT (denote tb) p w) (stepOk n₀ ann) n s t = some s' → topRun tb p w n₀ ann n s.abs t = some s'.abs
  | 0, _, _, _, h => by cases h
  | n + 1, s, s', t, h => by
    unfold runF at h
    unfold topRun
    cases he : through t with
    | true => rw [he] at h; cases h; rfl
    | false =>
      rw [he] at h
      cases hk : stepOk n₀ ann t with
      | false => rw [hk] at h; cases h
      | true =>
        rw [hk] at h
        cases hs : stepT (denote tb) p w s t with
        | none => rw [hs] at h; cases h
        | some r => obtain ⟨s₂, t₂⟩ := r; rw [hs] at h; rw [stepT_spec hs]; exact runF_of h
noncomputable def plant : Nat → List Obj → BT → BT
  | _, [], t => t
  | i, o :: r, t => plant (i + 1) r (t.ins i o)
noncomputable def T0 (w : World) (os : OsState) : SharedT := ⟨plant 0 (boot_heap w.params).objs.toList .nil, (boot_heap w.params).objs.size, (boot_heap w.params).life, Array.mk [], boot_drawn, boot_toks, os⟩
theorem step_quick (p : Program) (w : World) : stepT (denote treeTable) p w = PySem.W.Fast.tw10156331382660048174 (PySem.W.Fast.tw11892475500146522536 PySem.W.Fast.tw14364793385576792824) p w := by
  rw [PySem.W.Fast.te10156331382660048174, PySem.W.Fast.te11892475500146522536, PySem.W.Fast.te14364793385576792824]
theorem ok_quick : stepOk = PySem.W.Fast.tw6613529449190102663 := PySem.W.Fast.te6613529449190102663
theorem seen_quick : @openSeen = PySem.W.Fast.tw4187177175401517315 := PySem.W.Fast.te4187177175401517315
theorem left_of {p q : Program} {loose : List Str} {Xt : Shared → Bool} {α : Type} {Yf : Shared → α} {Ya : World → α} {N : Nat}
    (boot : ∀ w : World, (fencedOpening treeTable p w N).map (fun s => (s.heap, s.gens, s.drawn, s.toks)) = some (boot_heap w.params, Array.mk [], boot_drawn, boot_toks))
    (tree : ∀ w os, (T0 w os).abs = ⟨boot_heap w.params, Array.mk [], boot_drawn, boot_toks, os⟩)
    (ns : ∀ w : World, (boot_heap w.params).isNs mainGlobals = true)
    (run : ∀ w os, (runF (PySem.W.Fast.tw10156331382660048174 (PySem.W.Fast.tw11892475500146522536 PySem.W.Fast.tw14364793385576792824) p w) (PySem.W.Fast.tw6613529449190102663 (boot_heap w.params).objs.size ((boot_heap w.params).nsMap mainGlobals "__annotations__")) N (T0 w os) (topStub p)).map
      (fun s => (staticsOk (importedModules p.main.body) (boot_heap w.params) s.abs.heap && namesBound p s.abs.heap && gensDone s.abs && laidKept (boot_heap w.params) s.abs.heap, PySem.W.Fast.tw4187177175401517315 q loose (importedModules p.main.body) Xt true s.abs, Yf s.abs)) = some (true, openGood q loose, Ya w)) :
    LeftO p q loose Xt Yf Ya N := fun w => by
  obtain ⟨s₀, e, v⟩ := Option.map_eq_some_iff.mp (boot w)
  obtain ⟨h₀, g₀, d₀, k₀, os⟩ := s₀
  simp only [Prod.mk.injEq] at v
  obtain ⟨rfl, rfl, rfl, rfl⟩ := v
  have run' := run w os
  rw [← step_quick, ← ok_quick, ← seen_quick] at run'
  obtain ⟨s₁, r, x⟩ := Option.map_eq_some_iff.mp run'
  have r' := runF_of r
  rw [tree w os] at r'
  have y1 := congrArg Prod.fst x
  have y2 := congrArg Prod.snd x
  dsimp only at y1 y2
  unfold openEnds
  rw [e]
  show (topFrom treeTable p w N _).map _ = _
  unfold topFrom
  dsimp only
  rw [ns w]
  show (Option.bind (topRun treeTable p w _ _ N _ _) _).map _ = _
  rw [r']
  dsimp only [Option.bind]
  rw [y1]
  exact congrArg some y2
set_option maxRecDepth 100000 in
theorem tree0 (w : World) (os : OsState) : (T0 w os).abs = ⟨boot_heap w.params, Array.mk [], boot_drawn, boot_toks, os⟩ := by kernel_rfl
theorem ns0 (w : World) : (boot_heap w.params).isNs mainGlobals = true := by kernel_rfl
theorem boot0 : ∀ w : World, (fencedOpening treeTable PySem.Challenge.pw_on0093_01 w 1760).map (fun s => (s.heap, s.gens, s.drawn, s.toks)) = some (boot_heap w.params, Array.mk [], boot_drawn, boot_toks) := boot_open (by kernel_rfl) (by decide) (fun _ => by kernel_rfl)
set_option maxRecDepth 100000 in
set_option maxHeartbeats 8000000 in
theorem said : OpenLaw.wellSaid PySem.Challenge.rw_on0093_01 = true := by
  delta OpenLaw.wellSaid OpenRow.wellSaid OpenRow.partSaid
  repeat' (with_reducible refine look_both ?_ ?_)
  all_goals (try rw [PySem.W.Fast.te17119622794617984870])
  all_goals (try rw [PySem.W.Fast.te8179353310426384613])
  all_goals (try rw [PySem.W.Fast.named_eq])
  all_goals first | (with_reducible show noRoadLSs _ _ = true; kernel_rfl) | decide +kernel
set_option maxRecDepth 100000 in
set_option maxHeartbeats 8000000 in
theorem head_of {H : Hook} {d : DefRec} {kwd : List (Str × Expr)}
    (run : ∀ w os, (runF (PySem.W.Fast.tw10156331382660048174 (PySem.W.Fast.tw11892475500146522536 PySem.W.Fast.tw14364793385576792824) PySem.Challenge.pw_on0093_01 w) (PySem.W.Fast.tw6613529449190102663 (boot_heap w.params).objs.size ((boot_heap w.params).nsMap mainGlobals "__annotations__")) 1760 (T0 w os) (topStub PySem.Challenge.pw_on0093_01)).map
      (fun s => (staticsOk (importedModules PySem.Challenge.pw_on0093_01.main.body) (boot_heap w.params) s.abs.heap && namesBound PySem.Challenge.pw_on0093_01 s.abs.heap && gensDone s.abs && laidKept (boot_heap w.params) s.abs.heap, PySem.W.Fast.tw4187177175401517315 view [] (importedModules PySem.Challenge.pw_on0093_01.main.body) (fun s => xlAt view [] s && recOk (RowW.records (OpenRow.toRowW (OpenLaw.row PySem.Challenge.rw_on0093_01))) s) true s.abs, Hook.obs H s.abs)) = some (true, openGood view [], Hook.val H w))
    (hdef : defOf view (OpenLaw.row PySem.Challenge.rw_on0093_01).name = some (d, kwd)) (hp : (OpenLaw.row PySem.Challenge.rw_on0093_01).prog.theDef (OpenLaw.row PySem.Challenge.rw_on0093_01).name = some (d.params, d.body, d.scope)) (hk : kwWritten? d.params.kwonlyargs d.params.kw_defaults = some kwd)
    (k1 : (OpenLaw.row PySem.Challenge.rw_on0093_01).wellSaid = true) (hw : (OpenLaw.row PySem.Challenge.rw_on0093_01).toRowW.promised)
    (call : WalkO view [] (XL view []) (Hook.says H) (OpenLaw.row PySem.Challenge.rw_on0093_01).toRowW d kwd fun f vs => PySem.call f vs) : (OpenLaw.row PySem.Challenge.rw_on0093_01).Holds :=
  holds_open (q := view) (loose := []) (Xt := fun s => xlAt view [] s && recOk (RowW.records (OpenRow.toRowW (OpenLaw.row PySem.Challenge.rw_on0093_01))) s) (XP := XL view []) (Yf := Hook.obs H) (Ya := Hook.val H) (YP := Hook.says H) (N := 1760) (left_of boot0 tree0 ns0 run) (Hook.of H) (Hook.keeps H) (fun s e => xl_of s (Bool.and_eq_true_iff.mp e).1) XL.keeps hdef hp hk (fun s e => recFacts_of (Bool.and_eq_true_iff.mp e).2) (by rfl) k1 (by decide +kernel) ⟨rfl, rfl, rfl, rfl, rfl, by decide +kernel⟩ hw call
local macro_rules | `(tactic| o_law) => `(tactic| refine holds_law said fun _ => ?_)
local macro_rules | `(tactic| o_head $H) => `(tactic| (refine head_of (H := $H) (fun w os => by kernel_rfl) (by rfl) (by rfl) (by rfl) (by assumption) ?hw ?hc))
set_option maxRecDepth 100000 in
set_option maxHeartbeats 8000000 in
open_top hd for PySem.Challenge.rw_on0093_01
end Mine
namespace Mine
open PySem PySem.W PyProof.Rows PySem.Calls
abbrev prg : Program := PySem.Challenge.rw_on0093_01.row.prog
abbrev Led := List (Addr × Obj)
abbrev tupOf (vs : List Value) (n : Nat) : Obj := { cls := .type "tuple", data := .seq vs.toArray n }
abbrev Ctr (w : World) (f : Addr) (vs : List Value) (dd uu : Nat) (news : Led) (post : Value → Led → Prop) : Prop :=
  ∀ (p : Program) (loose : List Str) (mean : ExcName → Option Value) (mg mb : Str → Option Value) (dp un : Nat) (gd : Option (List Code)) (cn : Str) (cs : Scope) (a : Addr) (ccd : Value) (cl : List (Str × Addr)) (outer : List Env) (A₀ : Around) (base h₀ : Heap) (L : Addr) (m : Str → Option Value) (s : Shared) (Q E : Value → Shared → Prop),
    Below A₀ base outer h₀ → Fr h₀ L s.heap m → (hd.heap_1 w.params).In h₀ → News h₀ L s.heap news → Top p loose mean mg mb h₀ → cs.kind = .function → dp + dd < recursionLimit → un + uu < cLine →
    (∀ r news' h' tk', Fr h₀ L h' m → News h₀ L h' news' → post r news' → Q r { s with heap := h', toks := tk' }) →
    wpAny (model prg w) (ktrTop dp un gd cn cs L a ccd cl outer) (call (.ref f) vs) Q E s
theorem Ctr.use {w : World} {f : Addr} {vs : List Value} {dd uu : Nat} {news : Led} {post : Value → Led → Prop} {p : Program} {loose : List Str} {mean : ExcName → Option Value} {mg mb : Str → Option Value} {dp un : Nat} {gd : Option (List Code)} {cn : Str} {cs : Scope} {a : Addr} {ccd : Value} {cl : List (Str × Addr)} {outer : List Env} {A₀ : Around} {base h₀ : Heap} {L : Addr} {m : Str → Option Value} {s : Shared} {Q E : Value → Shared → Prop}
    (B : Below A₀ base outer h₀) (F : Fr h₀ L s.heap m) (X : (hd.heap_1 w.params).In h₀) (N : News h₀ L s.heap news) (T : Top p loose mean mg mb h₀) (hk : cs.kind = .function)
    (C : Ctr w f vs dd uu news post) (hd : dp + dd < recursionLimit) (hu : un + uu < cLine)
    (k : ∀ r news' h' tk', Fr h₀ L h' m → News h₀ L h' news' → post r news' → Q r { s with heap := h', toks := tk' }) :
    wpAny (model prg w) (ktrTop dp un gd cn cs L a ccd cl outer) (call (.ref f) vs) Q E s := C p loose mean mg mb dp un gd cn cs a ccd cl outer A₀ base h₀ L m s Q E B F X N T hk hd hu k
end Mine
namespace Mine
open PySem PySem.W PyProof.Rows PySem.Calls PyProof.V
theorem room_lt {a b n : Nat} (h : b < n) (hab : a ≤ b) : a < n := Nat.lt_of_le_of_lt hab h
local macro_rules | `(tactic| ktr_room) => `(tactic| (refine room_lt (by assumption : _ + _ < recursionLimit) ?_; (try dsimp only); (try simp only [Nat.add_assoc, Nat.reduceAdd]); exact Nat.add_le_add_left (by decide) _))
local macro_rules | `(tactic| ktr_units) => `(tactic| (refine room_lt (by assumption : _ + _ < cLine) ?_; (try dsimp only); (try simp only [Nat.add_assoc, Nat.reduceAdd]); exact Nat.add_le_add_left (by decide) _))
local macro_rules | `(tactic| k_room) => `(tactic| ktr_room)
section
open PySem PySem.W PyProof.Rows PySem.Calls PyProof.V
theorem isListM {h₀ h : Heap} {L c : Addr} {news : Led} {its : Array Value} {nn : Nat} (N : News h₀ L h news) (hm : (c, listOf its nn) ∈ news) : h.IsList c its := ⟨_, (N _ hm).1, rfl, nn, rfl⟩
theorem fitsM {vs : List Value} {n : Nat} (h : vs.length ≤ n) (hn : n ≤ 16777216) : vs.toArray.size ≤ sizeLine := by
  rw [List.size_toArray, sizeLine_eq]; exact Nat.le_trans h hn
section
variable {prog : Program} {w : World} {A : Around} {E : Value → Shared → Prop} {s : Shared} {h₀ : Heap} {L a b : Addr} {news : Led} {d e : Dat} {Q : Value → Shared → Prop}
theorem dat_shaped {d : Dat} (h : kqdOk 8 d = true) : SeqAt.shaped (kqdP d) = true := by
  have l := kqd_lay 8 d h
  unfold SeqAt.shaped; rw [l.1, Bool.true_and]; exact decide_eq_true (Nat.le_trans l.2 (by decide))
theorem dat_eqv {d e : Dat} (h : kqdOk 8 d = true) (k : kqdOk 8 e = true) [Decidable (d = e)] : PyData.eqv (kqdP d) (kqdP e) = decide (d = e) := by
  have q := kqd_eqv 8 d e 8 h k
  by_cases hq : d = e
  · rw [decide_eq_true hq]; exact q.mpr hq
  · rw [decide_eq_false hq]; exact Bool.eq_false_iff.mpr fun x => hq (q.mp x)
theorem dat_ne [Decidable (d = e)] (N : News h₀ L s.heap news) (Dx : DatIn news (.ref a) d) (Dy : DatIn news (.ref b) e) (hd : kqdOk 8 d = true) (he : kqdOk 8 e = true) (hu : A.units + 64 < cLine) (h : Q (.bool (!decide (d = e))) s) :
    wpAny (model prog w) A (compareOp .NotEq (.ref a) (.ref b)) Q E s := by
  obtain ⟨as, ra⟩ := kqd_in N 8 Dx hd
  obtain ⟨bs, rb⟩ := kqd_in N 8 Dy he
  exact ne_dataH ra rb (dat_shaped hd) (dat_shaped he) hu (by rw [dat_eqv hd he]; exact h)
theorem dat_eq [Decidable (d = e)] (N : News h₀ L s.heap news) (Dx : DatIn news (.ref a) d) (Dy : DatIn news (.ref b) e) (hd : kqdOk 8 d = true) (he : kqdOk 8 e = true) (hu : A.units + 64 < cLine) (h : Q (.bool (decide (d = e))) s) :
    wpAny (model prog w) A (compareOp .Eq (.ref a) (.ref b)) Q E s := by
  obtain ⟨as, ra⟩ := kqd_in N 8 Dx hd
  obtain ⟨bs, rb⟩ := kqd_in N 8 Dy he
  exact eq_dataH ra rb (dat_shaped hd) (dat_shaped he) hu (by rw [dat_eqv hd he]; exact h)
end
end
section
open PySem PySem.W PyProof.Rows PySem.Calls
theorem freshDraw : True := by
  w_top off
  trivial
abbrev jarO (a : Int) (ta : Tok) (b : Int) (tb : Tok) (c : Addr) (n : Nat) : Obj := listOf [.int a ta, .int b tb, .ref c].toArray n

section
variable {prog : Program} {w : World} {A : Around} {E : Value → Shared → Prop} {s : Shared} {h₀ : Heap} {L : Addr} {news : Led} {c : Addr} {vs : List Value} {nn : Nat}
theorem len_M {Q : Value → Shared → Prop} (N : News h₀ L s.heap news) (hm : (c, listOf vs.toArray nn) ∈ news) (hf : vs.length < 2 ^ 62)
    (h : Q (.int vs.length (s.toks + 1)) { s with toks := s.toks + 1 + 1 }) : wpAny (model prog w) A (call (.builtin "len") [.ref c]) Q E s := by
  refine len_list (isListM N hm) (by simp; omega) ?_
  simpa using h
theorem item_M {value slice : Expr} {ns : List Int} {k : Int} {u : Tok} {Q : Value → Shared → Prop} (N : News h₀ L s.heap news) (hm : (c, listOf vs.toArray nn) ∈ news) (hi : IntsAre vs ns)
    (h0 : 0 ≤ k) (h1 : k < ns.length) (hl : ns.length < 2 ^ 62) (h : ∀ x t, x ∈ ns → Q (.int x t) s)
    (hs : subscripted slice false (.ref c) (.int k u) = operate [.ref c, .int k u] (getItem (.ref c) (.int k u)) := by with_unfolding_all rfl) (hg : ∀ r, letTemporaryGo value (.ref c) r = pure () := by intro _; with_unfolding_all rfl) :
    wpAny (model prog w) A (subscriptTail value slice (.ref c) (.int k u)) Q E s := by
  have hlt : k.toNat < ns.length := by omega
  obtain ⟨t, e⟩ := hi.get k.toNat (ns[k.toNat]'hlt) (List.getElem?_eq_getElem hlt)
  exact item_listL (isListM N hm) h0 (by omega) e (h _ t (List.getElem_mem hlt)) hs hg
theorem fmodLen (b : Int) {n : Nat} (h : 1 ≤ n) : 0 ≤ Int.fmod b n ∧ Int.fmod b n < n := ⟨Int.fmod_nonneg_of_pos b (by omega), Int.fmod_lt_of_pos b (by omega)⟩
end
theorem draw_mod (x : Int) {c : Int} (hc : 1 ≤ c) : 0 ≤ Int.fmod x c ∧ Int.fmod x c < c := ⟨Int.fmod_nonneg_of_pos x (by omega), Int.fmod_lt_of_pos x (by omega)⟩
theorem draw_div {x c M : Int} (hc : 1 ≤ c) (h0 : 0 ≤ x) (h1 : x < M) : 0 ≤ Int.fdiv x c ∧ Int.fdiv x c < M := by
  rw [Int.fdiv_eq_ediv_of_nonneg x (by omega)]
  refine ⟨Int.ediv_nonneg h0 (by omega), ?_⟩
  have : x / c ≤ x := Int.ediv_le_self c h0
  omega
theorem draw_low {q b : Int} (q0 : 0 ≤ q) (q1 : q < 1000000007) (b0 : 0 ≤ b) (b1 : b ≤ 1000) :
    0 ≤ (q + 7919 * (b + 1) + 3) * (q + 7919 * (b + 1) + 3) * 69069 + (b + 1) ∧ (q + 7919 * (b + 1) + 3) * (q + 7919 * (b + 1) + 3) * 69069 + (b + 1) < 10 ^ 70 := by
  have h0 : 0 ≤ q + 7919 * (b + 1) + 3 := by omega
  have h1 : q + 7919 * (b + 1) + 3 ≤ 10000000000 := by omega
  generalize q + 7919 * (b + 1) + 3 = l at h0 h1
  have m0 : 0 ≤ l * l := Int.mul_nonneg h0 h0
  have m1 : l * l ≤ 10000000000 * 10000000000 := Int.mul_le_mul h1 h1 h0 (by decide)
  generalize l * l = z at m0 m1
  omega
theorem draw_post {X cnt b b' : Int} {t t1 t2 : Tok} {j c : Addr} {n : Nat} {rest : Led} (hc : 1 ≤ cnt) (hX : 0 ≤ X ∧ X < 10 ^ 70) (hb : 0 ≤ b' ∧ b' ≤ b + 1) :
    ∃ x t' a' ta' b'' tb' n', Value.int (Int.fmod X cnt) t = .int x t' ∧ 0 ≤ x ∧ x < cnt ∧ ((j, jarO (Int.fdiv X cnt) t1 b' t2 c n) :: rest) = (j, jarO a' ta' b'' tb' c n') :: rest ∧ 0 ≤ a' ∧ a' < 10 ^ 70 ∧ 0 ≤ b'' ∧ b'' ≤ b + 1 :=
  ⟨_, _, _, _, _, _, _, rfl, (draw_mod _ hc).1, (draw_mod _ hc).2, rfl, (draw_div hc hX.1 hX.2).1, (draw_div hc hX.1 hX.2).2, hb.1, hb.2⟩
set_option maxRecDepth 100000 in
set_option maxHeartbeats 8000000 in
theorem draw_c (w : World) (j : Addr) (a : Int) (ta : Tok) (b : Int) (tb : Tok) (c : Addr) (n : Nat) (cnt : Int) (tc : Tok) (rest : Led) (vs : List Value) (ns : List Int) (nn : Nat)
    (hoff : OwnOff rest [j]) (hc : (c, listOf vs.toArray nn) ∈ rest) (hv : IntsAre vs ns) (h1 : 1 ≤ ns.length) (h2 : ns.length ≤ 40)
    (ha0 : 0 ≤ a) (ha1 : a < 10 ^ 70) (hb0 : 0 ≤ b) (hb1 : b ≤ 1000) (hc0 : 1 ≤ cnt) (hc1 : cnt ≤ 9) :
    Ctr w 105 [.ref j, .int cnt tc] 1 64 ((j, jarO a ta b tb c n) :: rest)
      (fun r news' => ∃ x t a' ta' b' tb' n', r = .int x t ∧ 0 ≤ x ∧ x < cnt ∧ news' = (j, jarO a' ta' b' tb' c n') :: rest ∧ 0 ≤ a' ∧ a' < 10 ^ 70 ∧ 0 ≤ b' ∧ b' ≤ b + 1) := by
  intro p loose mean mg mb dp un gd cn cs a ccd cl outer A₀ base h₀ L m s Q E B F X N T hk hd hu hret
  have hM := kdMark
  have hvl := hv.length
  refine wpAny_call ?_
  k_dflt ktr_enter
  repeat' (first | (k_unfold; (try dsimp only)) | (k_end; wrow_close) | (((with_reducible show wpAny _ _ (call (Value.builtin "len") [Value.ref _]) _ _ _); k_dflt (refine' len_M ?zzN ?zzm ?zzf ?_; (case zzN => k_asm); (case zzm => k_mem); (case zzf => omega); k_whole))) | walk1 | (dsimp only; (first | (((with_reducible show wpAny _ _ (call (Value.builtin "len") [Value.ref _]) _ _ _); k_dflt (refine' len_M ?zzN ?zzm ?zzf ?_; (case zzN => k_asm); (case zzm => k_mem); (case zzf => omega); k_whole))) | walk1)) | (leave1; walk_say "STEP leave1"; try dsimp only) | fail "no step")
  · exact hret _ _ _ _ (by k_asm) (by k_asm) ⟨_, _, _, _, _, _, _, rfl, by omega, by omega, rfl, ha0, ha1, by omega, by omega⟩
  all_goals (refine hret _ _ _ _ (by k_asm) (by k_asm) (draw_post hc0 ?_ (by omega)))
  all_goals first | exact ⟨by omega, by omega⟩ | exact draw_low (draw_mod _ (by decide)).1 (draw_mod _ (by decide)).2 hb0 hb1 | exact ⟨(draw_mod _ (by decide)).1, Int.lt_trans (draw_mod _ (by decide)).2 (by decide)⟩
end
section
open PySem PySem.W PyProof.Rows PySem.Calls
theorem jar_not_ints {c : Addr} {a b : Int} {ta tb : Tok} {n nn : Nat} {vs : List Value} {ns : List Int} (hv : IntsAre vs ns) (h : listOf vs.toArray nn = jarO a ta b tb c n) : False := by
  have h1 : (listOf vs.toArray nn).data = (jarO a ta b tb c n).data := by rw [h]
  have h2 : vs.toArray = [Value.int a ta, .int b tb, .ref c].toArray := by injection h1
  have h3 : vs = [Value.int a ta, .int b tb, .ref c] := by simpa using congrArg Array.toList h2
  subst h3
  have hl := hv.length
  have h9 : 2 < ns.length := by rw [← hl]; simp
  obtain ⟨t, e⟩ := hv.get 2 (ns[2]'h9) (List.getElem?_eq_getElem h9)
  cases e
theorem draw_u {w : World} {p : Program} {loose : List Str} {mean : ExcName → Option Value} {mg mb : Str → Option Value} {dp un : Nat} {gd : Option (List Code)} {cn : Str} {cs : Scope} {a' : Addr} {ccd : Value} {cl : List (Str × Addr)} {outer : List Env} {A₀ : Around} {base h₀ : Heap} {L : Addr} {m : Str → Option Value} {s : Shared} {Q E : Value → Shared → Prop}
    {news : Led} {g : Obj → Led} {j : Addr} {a : Int} {ta : Tok} {b : Int} {tb : Tok} {c : Addr} {n : Nat} {cnt : Int} {tc : Tok} {vs : List Value} {ns : List Int} {nn : Nat}
    (B : Below A₀ base outer h₀) (F : Fr h₀ L s.heap m) (X : (hd.heap_1 w.params).In h₀) (N : News h₀ L s.heap news) (T : Top p loose mean mg mb h₀) (hk : cs.kind = .function)
    (U : UpdF j (jarO a ta b tb c n) news g) (hc : (c, listOf vs.toArray nn) ∈ news) (hv : IntsAre vs ns) (h1 : 1 ≤ ns.length) (h2 : ns.length ≤ 40)
    (ha0 : 0 ≤ a) (ha1 : a < 10 ^ 70) (hb0 : 0 ≤ b) (hb1 : b ≤ 1000) (hc0 : 1 ≤ cnt) (hc1 : cnt ≤ 9)
    (hd : dp + 1 < recursionLimit) (hu : un + 64 < cLine)
    (k : ∀ x t a1 ta1 b1 tb1 n1 h' tk', 0 ≤ x → x < cnt → 0 ≤ a1 → a1 < 10 ^ 70 → 0 ≤ b1 → b1 ≤ b + 1 → Fr h₀ L h' m → News h₀ L h' (g (jarO a1 ta1 b1 tb1 c n1)) → Q (.int x t) { s with heap := h', toks := tk' }) :
    wpAny (model prg w) (ktrTop dp un gd cn cs L a' ccd cl outer) (call (.ref 105) [.ref j, .int cnt tc]) Q E s := by
  obtain ⟨pre, post, rfl, hg, o1, o2⟩ := U.split
  have hc' : (c, listOf vs.toArray nn) ∈ pre ++ post := by
    rcases List.mem_append.mp hc with h | h
    · exact List.mem_append.mpr (.inl h)
    · rcases List.mem_cons.mp h with h | h
      · exact (jar_not_ints hv (congrArg Prod.snd h)).elim
      · exact List.mem_append.mpr (.inr h)
  have off : OwnOff (pre ++ post) [j] := by
    intro p hp b hb
    rw [List.mem_singleton.mp hb]
    exact (List.mem_append.mp hp).elim (o1 p) (o2 p)
  have N' : News h₀ L s.heap ((j, jarO a ta b tb c n) :: (pre ++ post)) := fun p hp => N p (by
    rcases List.mem_cons.mp hp with h | h
    · rw [h]; simp
    · rcases List.mem_append.mp h with h | h <;> simp [h])
  refine draw_c w j a ta b tb c n cnt tc (pre ++ post) vs ns nn off hc' hv h1 h2 ha0 ha1 hb0 hb1 hc0 hc1 p loose mean mg mb dp un gd cn cs a' ccd cl outer A₀ base h₀ L m s Q E B F X N' T hk hd hu ?_
  rintro r news' h' tk' F' N'' ⟨x, t, a1, ta1, b1, tb1, n1, rfl, x0, x1, rfl, p0, p1, q0, q1⟩
  refine k x t a1 ta1 b1 tb1 n1 h' tk' x0 x1 p0 p1 q0 q1 F' ?_
  rw [hg]
  intro p hp
  refine N'' p ?_
  rcases List.mem_append.mp hp with h | h
  · simp [h]
  · rcases List.mem_cons.mp h with h | h
    · rw [h]; simp
    · simp [h]
end
section
open PySem PySem.W PyProof.Rows PySem.Calls
theorem freshValue : True := by
  w_top off
  trivial
set_option maxRecDepth 100000 in
set_option maxHeartbeats 8000000 in
theorem value_c (w : World) (j : Addr) (a : Int) (ta : Tok) (b : Int) (tb : Tok) (c : Addr) (n : Nat) (wd : Int) (tc : Tok) (rest : Led) (vs : List Value) (ns : List Int) (nn : Nat)
    (hoff : OwnOff rest [j]) (hc : (c, listOf vs.toArray nn) ∈ rest) (hv : IntsAre vs ns) (h1 : 1 ≤ ns.length) (h2 : ns.length ≤ 40)
    (ha0 : 0 ≤ a) (ha1 : a < 10 ^ 70) (hb0 : 0 ≤ b) (hb1 : b ≤ 990) (hw0 : 1 ≤ wd) (hw1 : wd ≤ 3) :
    Ctr w 112 [.ref j, .int wd tc] 2 96 ((j, jarO a ta b tb c n) :: rest)
      (fun r news' => ∃ x y z t1 t2 t3 a' ta' b' tb' n', r = .ref x ∧ 0 ≤ y ∧ y < 2 ^ wd.toNat ∧ 0 ≤ z ∧ z < 2 ^ wd.toNat ∧ news' = (x, tupOf [.int wd t1, .int y t2, .int z t3] 0) :: (j, jarO a' ta' b' tb' c n') :: rest ∧ j < x ∧ AllLt x rest ∧ 0 ≤ a' ∧ a' < 10 ^ 70 ∧ 0 ≤ b' ∧ b' ≤ b + 2) := by
  rcases (by omega : wd = 1 ∨ wd = 2 ∨ wd = 3) with rfl | rfl | rfl
  all_goals (
    intro p loose mean mg mb dp un gd cn cs a ccd cl outer A₀ base h₀ L m s Q E B F X N T hk hd hu hret
    have hM := kdMark
    refine wpAny_call ?_
    k_dflt ktr_enter
    repeat' (first | (k_unfold; (try dsimp only)) | (k_end; wrow_close) | (((with_reducible show wpAny _ _ (call (Value.ref 105) _) _ _ _); k_dflt (refine' draw_u ?zzk1 ?zzk2 ?zzk3 ?zzk4 ?zzk5 ?zzkK ?zzkU ?zzkc ?zzkv ?zzl1 ?zzl2 ?zza0 ?zza1 ?zzb0 ?zzb1 ?zzc0 ?zzc1 ?zzkd ?zzku ?_; (case zzk1 => k_asm); (case zzk2 => k_asm); (case zzk3 => k_asm); (case zzk4 => k_asm); (case zzk5 => k_asm); (case zzkK => first | exact rfl | assumption); (case zzkU => k_updF); (case zzkc => k_mem); (case zzkv => assumption); (case zzl1 => assumption); (case zzl2 => assumption); (case zza0 => assumption); (case zza1 => assumption); (case zzb0 => assumption); (case zzb1 => omega); (case zzc0 => decide); (case zzc1 => decide); (case zzkd => ktr_room); (case zzku => ktr_units)); intro x9 t9 a9 ta9 b9 tb9 n9 h9 tk9 x0 x1 a0 a1 b0 b1 F9 N9; (try dsimp only at N9); (try dsimp only); (try k_fold); (try k_sweep); walk_say "DRAW")) | walk1 | (dsimp only; (first | (((with_reducible show wpAny _ _ (call (Value.ref 105) _) _ _ _); k_dflt (refine' draw_u ?zzk1 ?zzk2 ?zzk3 ?zzk4 ?zzk5 ?zzkK ?zzkU ?zzkc ?zzkv ?zzl1 ?zzl2 ?zza0 ?zza1 ?zzb0 ?zzb1 ?zzc0 ?zzc1 ?zzkd ?zzku ?_; (case zzk1 => k_asm); (case zzk2 => k_asm); (case zzk3 => k_asm); (case zzk4 => k_asm); (case zzk5 => k_asm); (case zzkK => first | exact rfl | assumption); (case zzkU => k_updF); (case zzkc => k_mem); (case zzkv => assumption); (case zzl1 => assumption); (case zzl2 => assumption); (case zza0 => assumption); (case zza1 => assumption); (case zzb0 => assumption); (case zzb1 => omega); (case zzc0 => decide); (case zzc1 => decide); (case zzkd => ktr_room); (case zzku => ktr_units)); intro x9 t9 a9 ta9 b9 tb9 n9 h9 tk9 x0 x1 a0 a1 b0 b1 F9 N9; (try dsimp only at N9); (try dsimp only); (try k_fold); (try k_sweep); walk_say "DRAW")) | walk1)) | (leave1; walk_say "STEP leave1"; try dsimp only) | fail "no step")
    refine hret _ _ _ _ (by k_asm) (by k_asm) ⟨_, _, _, _, _, _, _, _, _, _, _, rfl, by assumption, by assumption, by assumption, by assumption, rfl, And.left (by assumption), And.right (by assumption), by assumption, by assumption, by assumption, by omega⟩)
end
section
open PySem PySem.W PyProof.Rows PySem.Calls PyProof.V
inductive Rem (I : Addr) (it : Obj) : Led → Led → Prop
  | head {r} : Rem I it ((I, it) :: r) r
  | tail {p r r'} : Rem I it r r' → Rem I it (p :: r) (p :: r')
theorem Rem.sub {I : Addr} {it : Obj} : ∀ {l l' : Led}, Rem I it l l' → ∀ p ∈ (I, it) :: l', p ∈ l
  | _, _, .head, _, h => h
  | _, _, .tail r, p, h => by
    rcases List.mem_cons.mp h with h | h
    · exact .tail _ (r.sub p (by rw [h]; exact .head _))
    · rcases List.mem_cons.mp h with h | h
      · rw [h]; exact .head _
      · exact .tail _ (r.sub p (.tail _ h))
theorem unrEnd_rem {h₀ : Heap} {L I : Addr} {it : Obj} {rest : (Str → Option Value) → Led → Prop} {s₁ : Shared} {h' : Heap} {tk : Nat} {m' : Str → Option Value} {all news' : Led} (F : Fr h₀ L h' m') (N : News h₀ L h' all)
    (R : Rem I it all news') (off : ∀ p ∈ news', p.1 ≠ I) (r : rest m' news') : UnrEnd h₀ L s₁ I it rest { s₁ with heap := h', toks := tk } := UnrEnd.intro F N news' R.sub off r
section
variable {prog : Program} {w : World} {A : Around} {s : Shared} {env : Env} {h₀ : Heap}
theorem forLoop_W {R : Result → Shared → Prop} {target : Expr} {body : List Stmt} {I : Addr} {fp wr : List Addr} {n : Nat} {P : Nat → Value → Prop} {St : Nat → Heap → Prop} {m : Str → Option Value}
    {news : Led} (W : Walks prog w A I fp wr n P St)
    (hLf : env.locals ∉ fp) (hwr : ∀ b ∈ wr, h₀.get? b = none) (hnw : ∀ p ∈ news, p.1 ∉ wr)
    (hst : St 0 s.heap) (F : Fr h₀ env.locals s.heap m) (N : News h₀ env.locals s.heap news)
    (hgo : ∀ i (s' : Shared) v (Q' : Unit → Shared → Prop), St i s'.heap → Q' () s' → wpAny (model prog w) A (letOwnedTupleGo target (.ref I) v) Q' (notedBy (model prog w) A env fun e s' => R (.error e) s') s')
    (J : Nat → (Str → Option Value) → Led → Prop) (h0 : J 0 m news)
    (step : ∀ i v m₁ news₁ s₁ own, (∃ h tk, s₁ = { s with heap := h, toks := tk }) → i < n → P i v → J i m₁ news₁ → (∀ p ∈ news₁, p.1 ∉ wr) → (∀ p ∈ own, p.1 ∈ fp) → (∀ p ∈ own, s₁.heap.get? p.1 = some p.2) → (∀ b ∈ fp, h₀.get? b = none → ∀ o, s₁.heap.get? b = some o → (b, o) ∈ own) → St (i + 1) s₁.heap →
      Fr h₀ env.locals s₁.heap m₁ → News h₀ env.locals s₁.heap (own ++ news₁) →
      wpAny (model prog w) A (assign target env v) (fun _ s₃ => wpAny (model prog w) A (execs body env) (LoopStepV h₀ env.locals wr own (J (i + 1)) s₁ (fun v s' => R (.ok (.ret v)) s') fun s' => R (.ok .next) s') (notedBy (model prog w) A env fun e s' => R (.error e) s') s₃) (notedBy (model prog w) A env fun e s' => R (.error e) s') s₁)
    (hR : ∀ h' tk m' news', Fr h₀ env.locals h' m' → News h₀ env.locals h' news' → (∀ p ∈ news', p.1 ∉ wr) → J n m' news' → R (.ok .next) { s with heap := h', toks := tk }) :
    codeAny (model prog w) A (.forLoop target (.ref I) body [] env) R s := by
  have hLw : env.locals ∉ wr := fun h => hLf (W.sub _ h)
  have old : ∀ b o, h₀.get? b = some o → b ∉ wr := fun b o e hb => by rw [hwr b hb] at e; cases e
  refine codeAny_forLoop_any
    (fun k s' => ∃ h' tk m' news' i, s' = { s with heap := h', toks := tk } ∧ St i h' ∧ Fr h₀ env.locals h' m' ∧ News h₀ env.locals h' news' ∧ (∀ p ∈ news', p.1 ∉ wr) ∧ J i m' news' ∧ i ≤ n ∧ k = n + 1 - i) ?_ (n + 1)
    ⟨s.heap, s.toks, m, news, 0, rfl, hst, F, N, hnw, h0, Nat.zero_le _, rfl⟩
  rintro k s' ⟨h', tk, m', news', i, rfl, hst', F', N', hnw', hJ, hi, rfl⟩
  have next : ∀ h₁ : Heap, (∀ b o, b ∉ wr → h'.get? b = some o → h₁.get? b = some o) → Fr h₀ env.locals h₁ m' ∧ News h₀ env.locals h₁ news' := fun h₁ hk₁ =>
    ⟨⟨F'.ns.at' fun o e => hk₁ _ o hLw e, fun b o e => hk₁ b o (old b o e) (F'.keep b o e), F'.above⟩, fun p hp => ⟨hk₁ _ _ (hnw' p hp) (N' p hp).1, (N' p hp).2⟩⟩
  by_cases hlt : i < n
  · refine W.item i _ _ _ hlt hst' fun v h₁ tk₁ hP hst₁ hk₁ => ?_
    obtain ⟨F₁, N₁⟩ := next h₁ hk₁
    have Nown : News h₀ env.locals h₁ (ownOf h₀ fp h₁) := news_ownOf hLf
    refine hgo (i + 1) _ v _ hst₁ ?_
    refine wpAny_mono (step i v m' news' { s with heap := h₁, toks := tk₁ } (ownOf h₀ fp h₁) ⟨_, _, rfl⟩ hlt hP hJ hnw' ownOf_sub (fun p hp => (Nown p hp).1) (fun b hb hn o e => mem_ownOf hb hn e) hst₁ F₁ (Nown.append N₁))
      (fun _ s₂ h₂ => wpAny_mono h₂ (fun f s₃ h₃ => ?_) fun _ _ e => e) fun _ _ e => e
    have fin : LoopStepU h₀ env.locals wr (ownOf h₀ fp h₁) (J (i + 1)) { s with heap := h₁, toks := tk₁ } .next s₃ → ∃ m, m < n + 1 - i ∧ ∃ h' tk m' news' i, s₃ = { s with heap := h', toks := tk } ∧ St i h' ∧ Fr h₀ env.locals h' m' ∧ News h₀ env.locals h' news' ∧ (∀ p ∈ news', p.1 ∉ wr) ∧ J i m' news' ∧ i ≤ n ∧ m = n + 1 - i := by
      rintro ⟨_, h₃', tk₃, m₂, news₂, rfl, F₃, N₃, ha₃, hJ₃⟩
      refine ⟨n + 1 - (i + 1), by omega, h₃', tk₃, m₂, news₂, i + 1, rfl, ?_, F₃, N₃.right, ha₃, hJ₃, hlt, rfl⟩
      refine W.frame _ _ _ hst₁ fun b hb o e => ?_
      cases hn : h₀.get? b with
      | some o₀ =>
        have : o₀ = o := by have := F₁.keep b o₀ hn; rw [e] at this; exact (Option.some.inj this).symm
        exact this ▸ F₃.keep b o₀ hn
      | none => exact (N₃ _ (List.mem_append_left _ (mem_ownOf hb hn e))).1
    cases f with
    | ret v => exact h₃
    | brk => exact h₃
    | next => exact fin h₃
    | cont => exact fin h₃
  · have hin : i = n := by omega
    subst hin
    refine W.done _ _ _ hst' fun h₁ tk₁ hk₁ => wpAny_execs_nil ?_
    obtain ⟨F₁, N₁⟩ := next h₁ hk₁
    exact hR h₁ tk₁ m' news' F₁ N₁ hnw' hJ
def LoopAtW (prog : Program) (w : World) (A : Around) (h₀ : Heap) (env : Env) (target : Expr) (body : List Stmt) (Q : Flow → Shared → Prop) (E : Value → Shared → Prop) (it : Value) (s₂ : Shared) : Prop :=
  ∃ (I : Addr) (fp wr : List Addr) (n : Nat) (P : Nat → Value → Prop) (St : Nat → Heap → Prop) (m : Str → Option Value) (news : Led) (J : Nat → (Str → Option Value) → Led → Prop),
    it = .ref I ∧ Walks prog w A I fp wr n P St ∧ env.locals ∉ fp ∧ (∀ b ∈ wr, h₀.get? b = none) ∧ (∀ p ∈ news, p.1 ∉ wr) ∧ St 0 s₂.heap ∧ Fr h₀ env.locals s₂.heap m ∧ News h₀ env.locals s₂.heap news ∧
    (∀ i (s' : Shared) v (Q' : Unit → Shared → Prop), St i s'.heap → Q' () s' → wpAny (model prog w) A (letOwnedTupleGo target (.ref I) v) Q' E s') ∧ J 0 m news ∧
    (∀ i v m₁ news₁ s₁ own, (∃ h tk, s₁ = { s₂ with heap := h, toks := tk }) → i < n → P i v → J i m₁ news₁ → (∀ p ∈ news₁, p.1 ∉ wr) → (∀ p ∈ own, p.1 ∈ fp) → (∀ p ∈ own, s₁.heap.get? p.1 = some p.2) → (∀ b ∈ fp, h₀.get? b = none → ∀ o, s₁.heap.get? b = some o → (b, o) ∈ own) → St (i + 1) s₁.heap →
      Fr h₀ env.locals s₁.heap m₁ → News h₀ env.locals s₁.heap (own ++ news₁) →
      wpAny (model prog w) A (assign target env v) (fun _ s₃ => wpAny (model prog w) A (execs body env) (LoopStepV h₀ env.locals wr own (J (i + 1)) s₁ (fun v s' => Q (.ret v) s') fun s' => Q .next s') E s₃) E s₁) ∧
    ∀ h' tk m' news', Fr h₀ env.locals h' m' → News h₀ env.locals h' news' → (∀ p ∈ news', p.1 ∉ wr) → J n m' news' → Q .next { s₂ with heap := h', toks := tk }
theorem For_W {E : Value → Shared → Prop} {Q : Flow → Shared → Prop} {target iter : Expr} {pos : Pos} {body : List Stmt} {m : Str → Option Value} (_F : Fr h₀ env.locals s.heap m)
    (h : wpAny (model prog w) A (eval iter env) (fun xv s₁ => wpAny (model prog w) A (pyIter xv) (fun it s₂ => LoopAtW prog w A h₀ env target body Q E it s₂) E s₁) E s)
    (hs : ∀ x, foldedSetIterable iter env x = pure x)
    (hE : PassesOwn (model prog w) A env E := by passes_own) :
    wpAny (model prog w) A (exec (.For target iter body [] pos) env) Q E s := by
  refine wpAny_For (wpAny_mono h (fun xv s₁ h₁ => wpAny_mono h₁ (fun it s₂ h₂ => ?_) fun _ _ e => e) fun _ _ e => e) hs
  obtain ⟨I, fp, wr, n, P, St, m, news, J, rfl, W, hLf, hwr, hnw, hst, F, N, hgo, h0, step, hR⟩ := h₂
  exact forLoop_W (R := fun r s' => match r with | .ok f => Q f s' | .error e => cameBackBy (model prog w) A env E e s') W hLf hwr hnw hst F N (fun i s' v Q' a b => wpAny_passesOwn hE (hgo i s' v Q' a b)) J h0
    (fun i v m₁ news₁ s₁ own hs a b c d e f g h' k l => wpAny_mono (step i v m₁ news₁ s₁ own hs a b c d e f g h' k l) (fun _ _ x => wpAny_passesOwn hE x) hE) hR
end
section
variable {prog : Program} {w : World} {A : Around} {E : Value → Shared → Prop} {s : Shared} {env : Env} {h₀ : Heap} {target : Expr} {body : List Stmt} {Q : Flow → Shared → Prop}
theorem iterW_list {l : Addr} {vs : List Value} {nn : Nat} {m₀ : Str → Option Value} {news : Led} (J : Nat → (Str → Option Value) → Led → Prop)
    (hh : A.handled = none) (hl : (l, listOf vs.toArray nn) ∈ news) (F : Fr h₀ env.locals s.heap m₀) (N : News h₀ env.locals s.heap news) (hj : J 0 m₀ news)
    (hkeep : ∀ i m nx, J i m nx → (l, listOf vs.toArray nn) ∈ nx)
    (turn : ∀ i v m₁ news₁ h tk own, vs[i]? = some v → OwnOff own (news₁.map (·.1)) → J i m₁ news₁ → Fr h₀ env.locals h m₁ → News h₀ env.locals h (news₁ ++ own) →
      wpAny (model prog w) A (assign target env v) (fun _ s₃ => wpAny (model prog w) A (execs body env) (InvPostG h₀ env.locals (J (i + 1)) own { s with heap := h, toks := tk } Q) E s₃) E { s with heap := h, toks := tk })
    (done : ∀ m₁ news₁ h tk, J vs.length m₁ news₁ → Fr h₀ env.locals h m₁ → News h₀ env.locals h news₁ → Q .next { s with heap := h, toks := tk }) :
    wpAny (model prog w) A (pyIter (.ref l)) (fun it s₂ => LoopAtW prog w A h₀ env target body Q E it s₂) E s := by
  have hol : s.heap.get? l = some (listOf vs.toArray nn) := (N _ hl).1
  have hls : s.heap.IsList l vs.toArray := ⟨_, hol, rfl, nn, rfl⟩
  have hne : l ≠ s.heap.objs.size := Nat.ne_of_lt (Heap.lt_size hol)
  refine wpAny_pyIter_list hls ?_
  have W := Walks.list (prog := prog) (w := w) hh s.heap.objs.size l hne vs.toArray
  have hlen : vs.toArray.size = vs.length := by simp
  rw [hlen] at W
  refine ⟨_, _, _, vs.length, _, _, m₀, news, J, rfl, W, ?_, ?_, ?_, ⟨⟨_, Heap.get?_push_size _ rfl, rfl, rfl⟩, hls.at fun o e => Heap.get?_push_of_some _ e⟩, F.push _, (fun p hp => ⟨Heap.get?_push_of_some _ (N p hp).1, (N p hp).2⟩), (fun i s' v Q' st hQ' => letGo_listiter st.1 hQ'), hj, ?_, ?_⟩
  · intro hm
    rcases List.mem_cons.mp hm with e | hm
    · exact absurd F.ns.lt (e ▸ Nat.lt_irrefl _)
    · exact (N _ hl).2.1 ((List.mem_singleton.mp hm).symm)
  · intro b hb
    rw [List.mem_singleton.mp hb]
    exact next_is_new F
  · intro p hp hI
    exact absurd (Heap.lt_size (N p hp).1) ((List.mem_singleton.mp hI) ▸ Nat.lt_irrefl _)
  · rintro i v m₁ news₁ s₁ own ⟨hh', tk', rfl⟩ hin hP hJ hoff hown hget hfp hst F₁ N₁
    have hl₁ := hkeep i m₁ news₁ hJ
    have hP' : vs[i]? = some v := by simpa using hP
    have hI0 : h₀.get? s.heap.objs.size = none := next_is_new F
    obtain ⟨⟨oI, hoI, _⟩, _⟩ := id hst
    have hIown : (s.heap.objs.size, oI) ∈ own.filter fun p => decide (p.1 = s.heap.objs.size) := List.mem_filter.mpr ⟨hfp _ (List.mem_cons.mpr (.inl rfl)) hI0 _ hoI, by simp⟩
    have hsep : OwnOff (own.filter fun p => decide (p.1 = s.heap.objs.size)) (news₁.map (·.1)) := by
      intro p hp b hb e
      obtain ⟨q, hq, rfl⟩ := List.mem_map.mp hb
      have h1 : p.1 = s.heap.objs.size := by simpa using (List.mem_filter.mp hp).2
      exact hoff q hq (List.mem_singleton.mpr (e ▸ h1))
    have N₂ : News h₀ env.locals hh' (news₁ ++ own.filter fun p => decide (p.1 = s.heap.objs.size)) := fun p hp => N₁ p ((List.mem_append.mp hp).elim (fun h => List.mem_append.mpr (.inr h)) fun h => List.mem_append.mpr (.inl ((List.mem_filter.mp h).1)))
    have hlo : hh'.get? l = some (listOf vs.toArray nn) := (N₁ _ (List.mem_append.mpr (.inr hl₁))).1
    refine wpAny_mono (turn i v m₁ news₁ hh' tk' _ hP' hsep hJ F₁ N₂) (fun _ s₃ q => wpAny_mono q (fun f s₂ p => ?_) fun _ _ e => e) fun _ _ e => e
    have fin : InvEndG h₀ env.locals (J (i + 1)) (own.filter fun p => decide (p.1 = s.heap.objs.size)) { s with heap := hh', toks := tk' } s₂ →
        LoopStepU h₀ env.locals [s.heap.objs.size] own (J (i + 1)) { s with heap := hh', toks := tk' } .next s₂ := by
      rintro ⟨h', tk, m', news', nx, e, F', N', hn, ho, ha, hm⟩
      refine ⟨rfl, h', tk, m', nx, e, F', fun p hp => ?_, fun p hp hq => ?_, hm⟩
      · rcases List.mem_append.mp hp with h | h
        · by_cases hI : p.1 = s.heap.objs.size
          · exact N' p (ho p (List.mem_filter.mpr ⟨h, by simpa using hI⟩))
          · have h1 : p.1 = l := by
              rcases List.mem_cons.mp (hown p h) with h2 | h2
              · exact absurd h2 hI
              · exact List.mem_singleton.mp h2
            have h2 : hh'.get? p.1 = some p.2 := hget p h
            rw [h1, hlo] at h2
            have h3 : p = (l, listOf vs.toArray nn) := Prod.ext h1 (Option.some.inj h2).symm
            rw [h3]
            exact N' _ (hn _ (hkeep _ _ _ hm))
        · exact N' p (hn p h)
      · exact ha _ hIown p.1 (List.mem_map.mpr ⟨p, hp, rfl⟩) (List.mem_singleton.mp hq).symm
    cases f with
    | ret v => exact .ret p
    | brk => exact .brk p
    | next => exact .next (fin p)
    | cont => exact .cont (fin p)
  · rintro h' tk m' news' F' N' _ hJ
    exact done m' news' h' tk hJ F' N'
abbrev JS (stored : List Str) (m₀ : Str → Option Value) (J : Nat → Led → Prop) (i : Nat) (m : Str → Option Value) (nx : Led) : Prop := J i nx ∧ ∀ z, stored.contains z = false → m z = m₀ z
theorem js_fr {stored : List Str} {m₀ m₁ : Str → Option Value} {L : Addr} {h : Heap} (hm : ∀ z, stored.contains z = false → m₁ z = m₀ z) (F : Fr h₀ L h m₁) : Fr h₀ L h (fun y => if stored.contains y then m₁ y else m₀ y) := by
  have e : (fun y => if stored.contains y then m₁ y else m₀ y) = m₁ := by
    funext y
    cases q : stored.contains y with
    | true => simp
    | false => simp only [Bool.false_eq_true, if_false]; exact (hm y q).symm
  rw [e]; exact F
theorem iterW_listS {l : Addr} {vs : List Value} {nn : Nat} {m₀ : Str → Option Value} {news : Led} (stored : List Str) (J : Nat → Led → Prop)
    (hh : A.handled = none) (hl : (l, listOf vs.toArray nn) ∈ news) (F : Fr h₀ env.locals s.heap m₀) (N : News h₀ env.locals s.heap news) (hj : J 0 news)
    (hkeep : ∀ i nx, J i nx → (l, listOf vs.toArray nn) ∈ nx)
    (turn : ∀ i v (u : Str → Option Value) nx h tk own, vs[i]? = some v → OwnOff own (nx.map (·.1)) → J i nx → Fr h₀ env.locals h (fun y => if stored.contains y then u y else m₀ y) → News h₀ env.locals h (nx ++ own) →
      wpAny (model prog w) A (assign target env v) (fun _ s₃ => wpAny (model prog w) A (execs body env) (InvPostG h₀ env.locals (JS stored m₀ J (i + 1)) own { s with heap := h, toks := tk } Q) E s₃) E { s with heap := h, toks := tk })
    (done : ∀ (u : Str → Option Value) nx h tk, J vs.length nx → Fr h₀ env.locals h (fun y => if stored.contains y then u y else m₀ y) → News h₀ env.locals h nx → Q .next { s with heap := h, toks := tk }) :
    wpAny (model prog w) A (pyIter (.ref l)) (fun it s₂ => LoopAtW prog w A h₀ env target body Q E it s₂) E s :=
  iterW_list (JS stored m₀ J) hh hl F N ⟨hj, fun _ _ => rfl⟩ (fun i m nx j => hkeep i nx j.1)
    (fun i v m₁ nx h tk own hv ho hJ F₁ N₁ => turn i v m₁ nx h tk own hv ho hJ.1 (js_fr hJ.2 F₁) N₁)
    (fun m₁ nx h tk hJ F₁ N₁ => done m₁ nx h tk hJ.1 (js_fr hJ.2 F₁) N₁)
theorem iter_listS {x : Str} {l : Addr} {vs : List Value} {nn : Nat} {m₀ : Str → Option Value} {news : Led} (stored : List Str) (J : Nat → Led → Prop)
    (hh : A.handled = none) (hl : (l, listOf vs.toArray nn) ∈ news) (F : Fr h₀ env.locals s.heap m₀) (N : News h₀ env.locals s.heap news) (hj : J 0 news)
    (turn : ∀ i v (u : Str → Option Value) nx h tk own, vs[i]? = some v → OwnOff own (nx.map (·.1)) → (l, listOf vs.toArray nn) ∈ nx → J i nx → Fr h₀ env.locals h (fun y => if y = x then some v else if stored.contains y then u y else m₀ y) → News h₀ env.locals h (nx ++ own) →
      wpAny (model prog w) A (execs body env) (InvPostG h₀ env.locals (fun m' nx => (l, listOf vs.toArray nn) ∈ nx ∧ JS stored m₀ J (i + 1) m' nx) own { s with heap := h, toks := tk } Q) E { s with heap := h, toks := tk })
    (done : ∀ (u : Str → Option Value) nx h tk, J vs.length nx → Fr h₀ env.locals h (fun y => if stored.contains y then u y else m₀ y) → News h₀ env.locals h nx → Q .next { s with heap := h, toks := tk }) :
    wpAny (model prog w) A (pyIter (.ref l)) (fun it s₂ => LoopAtV prog w A h₀ env x body Q E it s₂) E s :=
  kdl_iter (JS stored m₀ J) hh hl F N ⟨hj, fun _ _ => rfl⟩
    (fun i v m₁ nx h tk own hv ho hl hJ F₁ N₁ => turn i v m₁ nx h tk own hv ho hl hJ.1 (by
      have e : (fun y => if y = x then some v else if stored.contains y then m₁ y else m₀ y) = fun y => if y = x then some v else m₁ y := by
        funext y
        by_cases q : y = x
        · simp [q]
        · simp only [if_neg q]
          cases c : stored.contains y with
          | true => simp
          | false => simp only [Bool.false_eq_true, if_false]; exact (hJ.2 y c).symm
      rw [e]; exact F₁) N₁)
    (fun m₁ nx h tk hJ F₁ N₁ => done m₁ nx h tk hJ.1 (js_fr hJ.2 F₁) N₁)
theorem iter_rangeS {x : Str} {r : Addr} {b₀ : Int} {t₀ u₀ v₀ : Tok} {n : Nat} {m₀ : Str → Option Value} {news : Led} (stored : List Str) (J : Nat → Led → Prop)
    (hh : A.handled = none) (hr : IsRange s.heap r 0 b₀ 1 t₀ u₀ v₀) (hsmall : Builtin.Range.small 0 b₀ 1 = true) (hn : Builtin.Range.rangeSize 0 b₀ 1 = (n : Int)) (F : Fr h₀ env.locals s.heap m₀) (N : News h₀ env.locals s.heap news) (hj : J 0 news)
    (turn : ∀ (i : Nat) t (u : Str → Option Value) nx h tk own, i < n → OwnOff own (nx.map (·.1)) → J i nx → Fr h₀ env.locals h (fun y => if y = x then some (.int i t) else if stored.contains y then u y else m₀ y) → News h₀ env.locals h (nx ++ own) →
      wpAny (model prog w) A (execs body env) (InvPostG h₀ env.locals (JS stored m₀ J (i + 1)) own { s with heap := h, toks := tk } Q) E { s with heap := h, toks := tk })
    (done : ∀ (u : Str → Option Value) nx h tk, J n nx → Fr h₀ env.locals h (fun y => if stored.contains y then u y else m₀ y) → News h₀ env.locals h nx → Q .next { s with heap := h, toks := tk }) :
    wpAny (model prog w) A (pyIter (.ref r)) (fun it s₂ => LoopAtV prog w A h₀ env x body Q E it s₂) E s := by
  refine wpAny_pyIter_range hr hsmall ?_
  have W : Walks prog w A s.heap.objs.size [s.heap.objs.size] [s.heap.objs.size] n (fun i v => i < n ∧ ∃ t, v = .int (0 + i * 1) t)
      (fun i h => IsRangeIter h s.heap.objs.size (0 + (i : Nat) * 1) ((n : Int) - (i : Nat)) 1) := (Walks.range hh _ 0 1 n).bound
  refine kdr_loop (JS stored m₀ J) W (fun _ h => h) (fun _ h => h) ?_ ?_ ?_ ?_ (by show IsRangeIter _ _ _ _ _; rw [hn]; simpa using Heap.get?_push_size _ rfl) (F.push _) (fun p hp => ⟨Heap.get?_push_of_some _ (N p hp).1, (N p hp).2⟩) ⟨hj, fun _ _ => rfl⟩ ?_ ?_
  · intro i h st b hb
    rw [List.mem_singleton.mp hb]
    obtain ⟨o, ho⟩ : ∃ o, h.get? s.heap.objs.size = some o := ⟨_, st⟩
    exact ⟨o, ho⟩
  · intro hm
    exact absurd F.ns.lt ((List.mem_singleton.mp hm) ▸ Nat.lt_irrefl _)
  · intro b hb
    rw [List.mem_singleton.mp hb]
    exact next_is_new F
  · intro p hp hI
    exact absurd (Heap.lt_size (N p hp).1) ((List.mem_singleton.mp hI) ▸ Nat.lt_irrefl _)
  · rintro i v m₁ nx h tk own hi ⟨_, t, rfl⟩ ho hJ F₁ N₁
    refine turn i t m₁ nx h tk own hi ho hJ.1 ?_ N₁
    have e : (fun y => if y = x then some (Value.int i t) else if stored.contains y then m₁ y else m₀ y) = fun y => if y = x then some (Value.int (0 + i * 1) t) else m₁ y := by
      funext y
      by_cases q : y = x
      · simp [q]
      · simp only [if_neg q]
        cases c : stored.contains y with
        | true => simp
        | false => simp only [Bool.false_eq_true, if_false]; exact (hJ.2 y c).symm
    rw [e]; exact F₁
  · intro m₁ nx h tk hJ F₁ N₁
    exact done m₁ nx h tk hJ.1 (js_fr hJ.2 F₁) N₁
end
end
section
open PySem PySem.W PyProof.Rows PySem.Calls PyProof.V
theorem freshEdge : True := by
  w_top off
  trivial
theorem bit1 {i : Int} (h0 : 0 ≤ i) (h1 : i < 8) : Builtin.bitAnd (i.fdiv (2 ^ Int.toNat 0)) 1 = i % 2 := by
  rcases (by omega : i = 0 ∨ i = 1 ∨ i = 2 ∨ i = 3 ∨ i = 4 ∨ i = 5 ∨ i = 6 ∨ i = 7) with h | h | h | h | h | h | h | h <;> subst h <;> decide +kernel
abbrev vecO (w a b : Int) (t1 t2 t3 : Tok) (n : Nat) : Obj := tupOf [.int w t1, .int a t2, .int b t3] n
abbrev lowZ (a b : Int) : Int := a % 2 + 2 * (b % 2)
set_option maxRecDepth 100000 in
set_option maxHeartbeats 8000000 in
theorem code_c (w : World) (news : Led) (x : Addr) (i1 i2 i3 : Int) (t1 t2 t3 t4 : Tok) (n : Nat) (hx : (x, vecO i1 i2 i3 t1 t2 t3 n) ∈ news) (a0 : 0 ≤ i2) (a1 : i2 < 8) (b0 : 0 ≤ i3) (b1 : i3 < 8) :
    Ctr w 28 [.ref x, .int 0 t4] 1 16 news (fun r news' => news' = news ∧ ∃ t, r = .int (lowZ i2 i3) t) := by
  intro p loose mean mg mb dp un gd cn cs a ccd cl outer A₀ base h₀ L m s Q E B F X N T hk hd hu hret
  refine wpAny_call ?_
  k_dflt ktr_enter
  k_steps
  exact hret _ _ _ _ (by k_asm) (by k_asm) ⟨rfl, _, by rw [bit1 a0 a1, bit1 b0 b1]⟩
set_option maxRecDepth 100000 in
set_option maxHeartbeats 8000000 in
theorem low_c (w : World) (news : Led) (x : Addr) (i1 i2 i3 : Int) (t1 t2 t3 : Tok) (n : Nat) (hx : (x, vecO i1 i2 i3 t1 t2 t3 n) ∈ news) (a0 : 0 ≤ i2) (a1 : i2 < 8) (b0 : 0 ≤ i3) (b1 : i3 < 8) :
    Ctr w 119 [.ref x] 1 16 news (fun r news' => news' = news ∧ ∃ t, r = .int (lowZ i2 i3) t) := by
  intro p loose mean mg mb dp un gd cn cs a ccd cl outer A₀ base h₀ L m s Q E B F X N T hk hd hu hret
  refine wpAny_call ?_
  k_dflt ktr_enter
  k_steps
  exact hret _ _ _ _ (by k_asm) (by k_asm) ⟨rfl, _, by rw [Int.fmod_eq_emod_of_nonneg _ (by decide), Int.fmod_eq_emod_of_nonneg _ (by decide)]⟩
def cameB (sort : Str) (o n : Int × Int × Int) : Bool :=
  if sort = "any" then decide (o ≠ n)
  else if lowZ o.2.1 o.2.2 = lowZ n.2.1 n.2.2 then false
  else if sort = "pos" then (decide (lowZ o.2.1 o.2.2 = 0) || decide (lowZ n.2.1 n.2.2 = 1))
  else (decide (lowZ o.2.1 o.2.2 = 1) || decide (lowZ n.2.1 n.2.2 = 0))
abbrev vecD (w a b : Int) : Dat := .tuple [.int w, .int a, .int b]
theorem vecIn {news : Led} {x : Addr} {i1 i2 i3 : Int} {t1 t2 t3 : Tok} {n : Nat} (hx : (x, vecO i1 i2 i3 t1 t2 t3 n) ∈ news) : DatIn news (.ref x) (vecD i1 i2 i3) :=
  .tuple hx (.cons (.int _ _) (.cons (.int _ _) (.cons (.int _ _) .nil)))
theorem vec_ne {prog : Program} {w : World} {A : Around} {E : Value → Shared → Prop} {s : Shared} {h₀ : Heap} {L : Addr} {Q : Value → Shared → Prop} {news : Led} {x y : Addr} {i1 i2 i3 j1 j2 j3 : Int} {t1 t2 t3 u1 u2 u3 : Tok} {n k : Nat} (N : News h₀ L s.heap news)
    (hx : (x, vecO i1 i2 i3 t1 t2 t3 n) ∈ news) (hy : (y, vecO j1 j2 j3 u1 u2 u3 k) ∈ news) (hu : A.units + 64 < cLine) (h : Q (.bool (decide ((i1, i2, i3) ≠ (j1, j2, j3)))) s) :
    wpAny (model prog w) A (compareOp .NotEq (.ref x) (.ref y)) Q E s := by
  classical
  refine dat_ne N (vecIn hx) (vecIn hy) rfl rfl hu ?_
  have e : (!decide (vecD i1 i2 i3 = vecD j1 j2 j3)) = decide ((i1, i2, i3) ≠ (j1, j2, j3)) := by
    rw [decide_not]
    congr 1
    simp [vecD]
  rw [e]; exact h
section
variable {a b c d e f : Int}
theorem came_any : cameB "any" (a, b, c) (d, e, f) = decide ((a, b, c) ≠ (d, e, f)) := by rw [cameB, if_pos rfl]
theorem came_pos : cameB "pos" (a, b, c) (d, e, f) = if lowZ b c = lowZ e f then false else (decide (lowZ b c = 0) || decide (lowZ e f = 1)) := by
  rw [cameB, if_neg (by decide), if_pos (show (PySem.Str.ofString "pos") = PySem.Str.ofString "pos" from rfl)]
theorem came_neg : cameB "neg" (a, b, c) (d, e, f) = if lowZ b c = lowZ e f then false else (decide (lowZ b c = 1) || decide (lowZ e f = 0)) := by
  rw [cameB, if_neg (by decide), if_neg (show ¬ (PySem.Str.ofString "neg") = PySem.Str.ofString "pos" by decide)]
theorem came_pos0 (h : lowZ b c = lowZ e f) : false = cameB "pos" (a, b, c) (d, e, f) := by rw [came_pos, if_pos h]
theorem came_pos1 (h : lowZ b c ≠ lowZ e f) (z : lowZ b c = 0) : (lowZ b c == 0) = cameB "pos" (a, b, c) (d, e, f) := by rw [came_pos, if_neg h, decide_eq_true z, Bool.true_or, z]; rfl
theorem came_pos2 (h : lowZ b c ≠ lowZ e f) (z : lowZ b c ≠ 0) : (lowZ e f == 1) = cameB "pos" (a, b, c) (d, e, f) := by rw [came_pos, if_neg h, decide_eq_false z, Bool.false_or]; rfl
theorem came_neg0 (h : lowZ b c = lowZ e f) : false = cameB "neg" (a, b, c) (d, e, f) := by rw [came_neg, if_pos h]
theorem came_neg1 (h : lowZ b c ≠ lowZ e f) (z : lowZ b c = 1) : (lowZ b c == 1) = cameB "neg" (a, b, c) (d, e, f) := by rw [came_neg, if_neg h, decide_eq_true z, Bool.true_or, z]; rfl
theorem came_neg2 (h : lowZ b c ≠ lowZ e f) (z : lowZ b c ≠ 1) : (lowZ e f == 0) = cameB "neg" (a, b, c) (d, e, f) := by rw [came_neg, if_neg h, decide_eq_false z, Bool.false_or]; rfl
end
set_option maxRecDepth 100000 in
set_option maxHeartbeats 8000000 in
theorem edge_c (w : World) (news : Led) (so : Str) (ts : Tok) (hs : so = "any" ∨ so = "pos" ∨ so = "neg") (x : Addr) (i1 i2 i3 : Int) (t1 t2 t3 : Tok) (n : Nat) (hx : (x, vecO i1 i2 i3 t1 t2 t3 n) ∈ news) (a0 : 0 ≤ i2) (a1 : i2 < 8) (b0 : 0 ≤ i3) (b1 : i3 < 8)
    (y : Addr) (j1 j2 j3 : Int) (u1 u2 u3 : Tok) (k : Nat) (hy : (y, vecO j1 j2 j3 u1 u2 u3 k) ∈ news) (c0 : 0 ≤ j2) (c1 : j2 < 8) (d0 : 0 ≤ j3) (d1 : j3 < 8) :
    Ctr w 63 [.str so ts, .ref x, .ref y] 2 128 news (fun r news' => news' = news ∧ r = .bool (cameB so (i1, i2, i3) (j1, j2, j3))) := by
  rcases hs with rfl | rfl | rfl
  all_goals (
    intro p loose mean mg mb dp un gd cn cs a ccd cl outer A₀ base h₀ L m s Q E B F X N T hk hd hu hret
    have hM := kdMark
    refine wpAny_call ?_
    k_dflt ktr_enter
    repeat' (first | (k_unfold; (try dsimp only)) | (k_end; wrow_close) | ((with_reducible show wpAny _ _ (compareOp CmpOp.NotEq (Value.ref _) (Value.ref _)) _ _ _); (k_dflt (refine' vec_ne ?zzN ?zzx ?zzy ?zzu ?_; (case zzN => k_asm); (case zzx => k_mem); (case zzy => k_mem); (case zzu => ktr_units); k_whole))) | (((with_reducible show wpAny _ _ (call (Value.ref 119) _) _ _ _); k_dflt (refine' Ctr.use ?zzk1 ?zzk2 ?zzk3 ?zzk4 ?zzk5 ?zzkK (low_c _ _ _ _ _ _ _ _ _ _ ?zzp1 ?zzp2 ?zzp3 ?zzp4 ?zzp5) ?zzkd ?zzku ?_; (case zzk1 => k_asm); (case zzk2 => k_asm); (case zzk3 => k_asm); (case zzk4 => k_asm); (case zzk5 => k_asm); (case zzkK => first | exact rfl | assumption); (case zzp1 => k_mem); (case zzp2 => assumption); (case zzp3 => assumption); (case zzp4 => assumption); (case zzp5 => assumption); (case zzkd => ktr_room); (case zzku => ktr_units)); intro r9 n9 h9 tk9 F9 N9 e9; obtain ⟨e8, t9, e7⟩ := e9; subst e7; subst e8; (try dsimp only); (try k_fold); (try k_sweep); walk_say "CALL 119")) | (((with_reducible show wpAny _ _ (call (Value.ref 28) _) _ _ _); k_dflt (refine' Ctr.use ?zzk1 ?zzk2 ?zzk3 ?zzk4 ?zzk5 ?zzkK (code_c _ _ _ _ _ _ _ _ _ _ _ ?zzp1 ?zzp2 ?zzp3 ?zzp4 ?zzp5) ?zzkd ?zzku ?_; (case zzk1 => k_asm); (case zzk2 => k_asm); (case zzk3 => k_asm); (case zzk4 => k_asm); (case zzk5 => k_asm); (case zzkK => first | exact rfl | assumption); (case zzp1 => k_mem); (case zzp2 => assumption); (case zzp3 => assumption); (case zzp4 => assumption); (case zzp5 => assumption); (case zzkd => ktr_room); (case zzku => ktr_units)); intro r9 n9 h9 tk9 F9 N9 e9; obtain ⟨e8, t9, e7⟩ := e9; subst e7; subst e8; (try dsimp only); (try k_fold); (try k_sweep); walk_say "CALL 28")) | walk1 | (dsimp only; (first | ((with_reducible show wpAny _ _ (compareOp CmpOp.NotEq (Value.ref _) (Value.ref _)) _ _ _); (k_dflt (refine' vec_ne ?zzN ?zzx ?zzy ?zzu ?_; (case zzN => k_asm); (case zzx => k_mem); (case zzy => k_mem); (case zzu => ktr_units); k_whole))) | (((with_reducible show wpAny _ _ (call (Value.ref 119) _) _ _ _); k_dflt (refine' Ctr.use ?zzk1 ?zzk2 ?zzk3 ?zzk4 ?zzk5 ?zzkK (low_c _ _ _ _ _ _ _ _ _ _ ?zzp1 ?zzp2 ?zzp3 ?zzp4 ?zzp5) ?zzkd ?zzku ?_; (case zzk1 => k_asm); (case zzk2 => k_asm); (case zzk3 => k_asm); (case zzk4 => k_asm); (case zzk5 => k_asm); (case zzkK => first | exact rfl | assumption); (case zzp1 => k_mem); (case zzp2 => assumption); (case zzp3 => assumption); (case zzp4 => assumption); (case zzp5 => assumption); (case zzkd => ktr_room); (case zzku => ktr_units)); intro r9 n9 h9 tk9 F9 N9 e9; obtain ⟨e8, t9, e7⟩ := e9; subst e7; subst e8; (try dsimp only); (try k_fold); (try k_sweep); walk_say "CALL 119")) | (((with_reducible show wpAny _ _ (call (Value.ref 28) _) _ _ _); k_dflt (refine' Ctr.use ?zzk1 ?zzk2 ?zzk3 ?zzk4 ?zzk5 ?zzkK (code_c _ _ _ _ _ _ _ _ _ _ _ ?zzp1 ?zzp2 ?zzp3 ?zzp4 ?zzp5) ?zzkd ?zzku ?_; (case zzk1 => k_asm); (case zzk2 => k_asm); (case zzk3 => k_asm); (case zzk4 => k_asm); (case zzk5 => k_asm); (case zzkK => first | exact rfl | assumption); (case zzp1 => k_mem); (case zzp2 => assumption); (case zzp3 => assumption); (case zzp4 => assumption); (case zzp5 => assumption); (case zzkd => ktr_room); (case zzku => ktr_units)); intro r9 n9 h9 tk9 F9 N9 e9; obtain ⟨e8, t9, e7⟩ := e9; subst e7; subst e8; (try dsimp only); (try k_fold); (try k_sweep); walk_say "CALL 28")) | walk1)) | (leave1; walk_say "STEP leave1"; try dsimp only) | fail "no step"))
  all_goals (refine hret _ _ _ _ (by k_asm) (by k_asm) ⟨rfl, congrArg Value.bool ?_⟩)
  · exact came_any.symm
  · exact came_pos0 (by assumption)
  · exact came_pos1 (by assumption) (by assumption)
  · exact came_pos2 (by assumption) (by assumption)
  · exact came_neg0 (by assumption)
  · exact came_neg1 (by assumption) (by assumption)
  · exact came_neg2 (by assumption) (by assumption)
end
section
open PySem PySem.W PyProof.Rows PySem.Calls PyProof.V
theorem freshMachine : True := by
  w_top off
  trivial
theorem codeHd_K (w : World) {h : Heap} (X : (hd.heap_1 w.params).In h) : CodeHd h 132 128 := codeHd_of_K X (by kernel_rfl)
theorem getL_some {name : Str} {es : List DictEntry} {x : Option Value} (h : getL name es = some x) : (getL name es).isSome = true := by rw [h]; rfl
theorem putL_len (name : Str) (hsh : Int) (key v : Value) : ∀ es : List DictEntry, (putL name hsh key v es).length ≤ es.length + 1
  | [] => by simp [putL]
  | e :: r => by
    have := putL_len name hsh key v r
    unfold putL
    split
    · simp
    · simp; omega
theorem getL_put (name : Str) (hsh : Int) (key v : Value) (hk : key.isStr name = true) : ∀ es : List DictEntry, getL name (putL name hsh key v es) = some (some v) := by
  intro es
  have q : (putL name hsh key v es).find? (·.key.isStr name) = some ⟨hsh, key, v⟩ ∨ ∃ h' k', (putL name hsh key v es).find? (·.key.isStr name) = some ⟨h', k', v⟩ := by
    induction es with
    | nil => left; simp [putL, hk]
    | cons e r ih =>
      unfold putL
      by_cases c : e.key.isStr name = true
      · right
        rw [if_pos c]
        exact ⟨e.hash, e.key, by simp [c]⟩
      · rw [if_neg c]
        have c' : e.key.isStr name = false := by simpa using c
        simp only [List.find?_cons, c']
        exact ih
  unfold getL
  rcases q with q | ⟨h', k', q⟩ <;> rw [q]
def FoundS (w : World) (f hl : Addr) (rest : Led) : Prop :=
  ∀ (news : Led) (ho : Obj) (kvs : List (Int × Value)) (th : Value) (e : Addr) (a b : Value) (k : Int) (t n : Nat) (v : Value), (∀ p ∈ rest, p ∈ news) → (hl, ho) ∈ news → ho.IsDictOf (intKind prg w) kvs →
    (e, tupOf [a, b, .int k t] n) ∈ news → valueAt kvs k = some v → Ctr w f [th, .ref e] 1 64 news (fun r news' => news' = news ∧ r = v)
abbrev SleepPost (sl : Addr) (xs : List Value) (dt : Addr) (es : List DictEntry) (wv : Value) (ns : List Int) (r2 : Led) (r : Value) (news' : Led) : Prop :=
  r = .none ∧ ∃ nl vs' n1 n2 es' nT', news' = (sl, listOf (xs ++ [Value.ref nl]).toArray n1) :: (dt, dictOf es' nT') :: (nl, listOf vs'.toArray n2) :: r2 ∧
      IntsAre vs' ns ∧ getL "wait" es' = some (some wv) ∧ es'.length ≤ es.length + 1 ∧ @LT.lt Nat _ sl nl ∧ @LT.lt Nat _ dt nl ∧ AllLt nl r2
theorem sleep_fin {sl dt nl : Addr} {xs : List Value} {es : List DictEntry} {wv key : Value} {hh : Int} {ns : List Int} {vs : List Value} {r2 : Led} {n1 nT' c : Nat} {h₀ h' : Heap} {L : Addr} {m : Str → Option Value} {s : Shared} {Q : Value → Shared → Prop} {tk : Nat}
    (hret : ∀ r news' h' tk', Fr h₀ L h' m → News h₀ L h' news' → SleepPost sl xs dt es wv ns r2 r news' → Q r { s with heap := h', toks := tk' })
    (F : Fr h₀ L h' m) (N : News h₀ L h' ((nl, listOf vs.toArray c) :: (sl, listOf (xs.toArray.push (.ref nl)) n1) :: (dt, dictOf (putL "wait" hh key wv es) nT') :: r2))
    (hk : key.isStr "wait" = true) (hv : IntsAre vs ns) (l : @LT.lt Nat _ sl nl ∧ @LT.lt Nat _ dt nl ∧ AllLt nl r2) : Q .none { s with heap := h', toks := tk } := by
  rw [List.push_toArray] at N
  refine hret .none ((sl, listOf (xs ++ [Value.ref nl]).toArray n1) :: (dt, dictOf (putL "wait" hh key wv es) nT') :: (nl, listOf vs.toArray c) :: r2) h' tk F (cb_drop N ?_) ⟨rfl, nl, vs, n1, c, putL "wait" hh key wv es, nT', rfl, hv, getL_put _ _ _ _ hk es, putL_len _ _ _ _ _, l⟩
  intro p hp
  simp only [List.mem_cons] at hp ⊢
  rcases hp with h | h | h | h
  · exact .inr (.inl h)
  · exact .inr (.inr (.inl h))
  · exact .inl h
  · exact .inr (.inr (.inr h))
def SleepS (w : World) (f sl : Addr) (rest : Led) : Prop :=
  ∀ (r2 : Led) (xs : List Value) (n : Nat) (th dt : Addr) (es : List DictEntry) (nT : Nat) (w0 wv : Value) (kl : Addr) (vs : List Value) (ns : List Int) (nn : Nat), (∀ p ∈ rest, p ∈ r2) → OwnOff r2 [sl, dt] → @Ne Nat sl dt →
    (th, instObj 94 dt) ∈ r2 → getL "wait" es = some (some w0) → es.length ≤ 100 → xs.length ≤ 100 → handedIn wv = true → (kl, listOf vs.toArray nn) ∈ r2 → IntsAre vs ns → ns.length ≤ 100 →
    Ctr w f [.ref th, wv, .ref kl] 1 64 ((sl, listOf xs.toArray n) :: (dt, dictOf es nT) :: r2) (SleepPost sl xs dt es wv ns r2)
theorem FoundS.mono {w : World} {f hl : Addr} {r r' : Led} (h : FoundS w f hl r) (hs : ∀ p ∈ r, p ∈ r') : FoundS w f hl r' :=
  fun news ho kvs th e a b k t n v hsub => h news ho kvs th e a b k t n v fun p hp => hsub p (hs p hp)
theorem SleepS.mono {w : World} {f sl : Addr} {r r' : Led} (h : SleepS w f sl r) (hs : ∀ p ∈ r, p ∈ r') : SleepS w f sl r' :=
  fun r2 xs n th dt es nT w0 wv kl vs ns nn hsub => h r2 xs n th dt es nT w0 wv kl vs ns nn fun p hp => hsub p (hs p hp)
def TabS (ps : Array Value) (rest : Led) : Prop :=
  ps = #[] ∨ ∃ c1 c2 o1 o2 v1 v2 t1 t2, ps = #[rawInt 132, rawInt 4, Value.ref c1, rawInt 135, rawInt 4, Value.ref c2] ∧ (c1, o1) ∈ rest ∧ (c2, o2) ∈ rest ∧ o1.data = .fields v1 ∧ v1[1]? = some (.str "_law_machine.<locals>._law_found" t1) ∧ o2.data = .fields v2 ∧ v2[1]? = some (.str "_law_machine.<locals>._law_sleep" t2)
theorem TabS.mono {ps : Array Value} {r r' : Led} (h : TabS ps r) (hs : ∀ p ∈ r, p ∈ r') : TabS ps r' := by
  rcases h with h | ⟨c1, c2, o1, o2, v1, v2, t1, t2, h, a, b, r⟩
  · exact .inl h
  · exact .inr ⟨c1, c2, o1, o2, v1, v2, t1, t2, h, hs _ a, hs _ b, r⟩
def Mach (w : World) (x hl sl : Addr) (rest : Led) : Prop :=
  ∃ dx es n f1 f2 fd1 fd2 oc1 oc2 od1 od2 sl1 sl2, (x, instObj 94 dx) ∈ rest ∧ (dx, dictOf es n) ∈ rest ∧ getL "evaluate_in" es = some (some (Value.ref f1)) ∧ getL "sleep" es = some (some (Value.ref f2)) ∧
    (f1, (⟨oc1, od1, .func fd1, sl1⟩ : Obj)) ∈ rest ∧ (f2, (⟨oc2, od2, .func fd2, sl2⟩ : Obj)) ∈ rest ∧ FoundS w f1 hl rest ∧ SleepS w f2 sl rest
theorem Mach.mono {w : World} {x hl sl : Addr} {r r' : Led} (h : Mach w x hl sl r) (hs : ∀ p ∈ r, p ∈ r') : Mach w x hl sl r' := by
  obtain ⟨dx, es, n, f1, f2, fd1, fd2, oc1, oc2, od1, od2, sl1, sl2, a, b, c, d, e, f, g, h⟩ := h
  exact ⟨dx, es, n, f1, f2, fd1, fd2, oc1, oc2, od1, od2, sl1, sl2, hs _ a, hs _ b, c, d, hs _ e, hs _ f, g.mono hs, h.mono hs⟩
abbrev MachPost (w : World) (hl : Addr) (ho : Obj) (sl : Addr) (so : Obj) (rest : Led) (r : Value) (news' : Led) : Prop :=
  ∃ x ps nw, r = .ref x ∧ news' = (128, tabObj ps) :: (hl, ho) :: (sl, so) :: (nw ++ rest) ∧ (∀ p ∈ nw, 128 < p.1 ∧ hl < p.1 ∧ sl < p.1 ∧ ∀ q ∈ rest, q.1 < p.1) ∧ Mach w x hl sl (nw ++ rest) ∧ TabS ps (nw ++ rest)
theorem mach_fin {w : World} {hl : Addr} {ho : Obj} {sl : Addr} {so : Obj} {rest : Led} {h₀ h' : Heap} {L : Addr} {m : Str → Option Value} {s : Shared} {Q : Value → Shared → Prop} {tk : Nat} {full : Led}
    {f1 c1 f2 c2 x dx k1 k2 l0 : Nat} {oc1 oc2 ok1 ok2 : Obj} {fd1 fd2 : FuncData} {es : List DictEntry} {n : Nat} {ps : Array Value} {q1 q2 : Value} {od1 od2 : Option Addr} {sl1 sl2 : Array (Option Value)}
    (hret : ∀ r news' h' tk', Fr h₀ L h' m → News h₀ L h' news' → MachPost w hl ho sl so rest r news' → Q r { s with heap := h', toks := tk' })
    (F : Fr h₀ L h' m) (N : News h₀ L h' full)
    (m1 : (f1, (⟨q1, od1, .func fd1, sl1⟩ : Obj)) ∈ full) (m2 : (c1, oc1) ∈ full) (m3 : (k1, ok1) ∈ full) (m4 : (f2, (⟨q2, od2, .func fd2, sl2⟩ : Obj)) ∈ full) (m5 : (c2, oc2) ∈ full) (m6 : (k2, ok2) ∈ full) (m7 : (x, instObj 94 dx) ∈ full) (m8 : (dx, dictOf es n) ∈ full)
    (m9 : (128, tabObj ps) ∈ full) (ma : (hl, ho) ∈ full) (mb : (sl, so) ∈ full) (mr : ∀ p ∈ rest, p ∈ full)
    (e1 : getL "evaluate_in" es = some (some (Value.ref f1))) (e2 : getL "sleep" es = some (some (Value.ref f2)))
    (_g1 : fd1.code = .ref c1) (_g2 : fd1.closure.map (·.2) = [k1]) (_g3 : fd2.code = .ref c2) (_g4 : fd2.closure.map (·.2) = [k2])
    (hT : TabS ps ((c1, oc1) :: (c2, oc2) :: rest))
    (hF : FoundS w f1 hl [(f1, (⟨q1, od1, .func fd1, sl1⟩ : Obj)), (c1, oc1), (k1, ok1)]) (hS : SleepS w f2 sl [(f2, (⟨q2, od2, .func fd2, sl2⟩ : Obj)), (c2, oc2), (k2, ok2)])
    (lo : 128 < l0 ∧ @LT.lt Nat _ hl l0 ∧ @LT.lt Nat _ sl l0) (la : AllLt l0 rest) (hi : l0 < f1 ∧ l0 < f2 ∧ l0 < k1 ∧ l0 < k2 ∧ l0 < x ∧ l0 < dx) (hc : (c1, oc1) ∈ rest ∧ (c2, oc2) ∈ rest ∨ l0 < c1 ∧ l0 < c2) : Q (.ref x) { s with heap := h', toks := tk } := by
  have sub : ∃ nw : Led, (∀ p ∈ nw, p ∈ full ∧ l0 < p.1) ∧ (∀ p ∈ [(f1, (⟨q1, od1, .func fd1, sl1⟩ : Obj)), (c1, oc1), (k1, ok1), (f2, (⟨q2, od2, .func fd2, sl2⟩ : Obj)), (c2, oc2), (k2, ok2), (x, instObj 94 dx), (dx, dictOf es n)], p ∈ nw ++ rest) := by
    rcases hc with hc | hc
    · refine ⟨[(f1, (⟨q1, od1, .func fd1, sl1⟩ : Obj)), (k1, ok1), (f2, (⟨q2, od2, .func fd2, sl2⟩ : Obj)), (k2, ok2), (x, instObj 94 dx), (dx, dictOf es n)], ?_, ?_⟩
      · simp only [List.forall_mem_cons]
        exact ⟨⟨m1, hi.1⟩, ⟨m3, hi.2.2.1⟩, ⟨m4, hi.2.1⟩, ⟨m6, hi.2.2.2.1⟩, ⟨m7, hi.2.2.2.2.1⟩, ⟨m8, hi.2.2.2.2.2⟩, fun _ h => nomatch h⟩
      · simp only [List.forall_mem_cons]
        exact ⟨by simp, by simp [hc.1], by simp, by simp, by simp [hc.2], by simp, by simp, by simp, fun _ h => nomatch h⟩
    · refine ⟨[(f1, (⟨q1, od1, .func fd1, sl1⟩ : Obj)), (c1, oc1), (k1, ok1), (f2, (⟨q2, od2, .func fd2, sl2⟩ : Obj)), (c2, oc2), (k2, ok2), (x, instObj 94 dx), (dx, dictOf es n)], ?_, fun p hp => List.mem_append.mpr (.inl hp)⟩
      simp only [List.forall_mem_cons]
      exact ⟨⟨m1, hi.1⟩, ⟨m2, hc.1⟩, ⟨m3, hi.2.2.1⟩, ⟨m4, hi.2.1⟩, ⟨m5, hc.2⟩, ⟨m6, hi.2.2.2.1⟩, ⟨m7, hi.2.2.2.2.1⟩, ⟨m8, hi.2.2.2.2.2⟩, fun _ h => nomatch h⟩
  obtain ⟨nw, hn1, hn2⟩ := sub
  simp only [List.forall_mem_cons] at hn2
  obtain ⟨s1, s2, s3, s4, s5, s6, s7, s8, _⟩ := hn2
  refine hret _ _ _ _ F (cb_drop N ?_) ⟨x, ps, nw, rfl, rfl, fun p hp => ?_, ⟨dx, es, n, f1, f2, fd1, fd2, q1, q2, od1, od2, sl1, sl2, s7, s8, e1, e2, s1, s4, hF.mono ?_, hS.mono ?_⟩, hT.mono ?_⟩
  · intro p hp
    rcases List.mem_cons.mp hp with h | hp
    · rw [h]; exact m9
    · rcases List.mem_cons.mp hp with h | hp
      · rw [h]; exact ma
      · rcases List.mem_cons.mp hp with h | hp
        · rw [h]; exact mb
        · exact (List.mem_append.mp hp).elim (fun h => (hn1 p h).1) (mr p)
  · have := (hn1 p hp).2
    exact ⟨Nat.lt_trans lo.1 this, Nat.lt_trans lo.2.1 this, Nat.lt_trans lo.2.2 this, fun q hq => Nat.lt_trans (tb_ltOf la q hq) this⟩
  · simp only [List.forall_mem_cons]; exact ⟨s1, s2, s3, fun _ h => nomatch h⟩
  · simp only [List.forall_mem_cons]; exact ⟨s4, s5, s6, fun _ h => nomatch h⟩
  · simp only [List.forall_mem_cons]; exact ⟨s2, s5, fun p hp => List.mem_append.mpr (.inr hp)⟩
local macro_rules | `(tactic| is_list) => `(tactic| exact isListM (by k_asm) (by k_mem))
local macro_rules | `(tactic| size_fits) => `(tactic| (refine fitsM (n := 100) ?_ (by decide); omega))
set_option maxRecDepth 100000 in
set_option maxHeartbeats 8000000 in
theorem machine_c0 (w : World) (hl : Addr) (ho : Obj) (sl : Addr) (rest : Led) (o1 : OwnOff rest [128, hl, sl]) (h1 : hl ≠ 128) (h2 : sl ≠ 128) (h3 : sl ≠ hl) :
    Ctr w 133 [.ref hl, .ref sl] 4 128 ((128, tabObj #[]) :: (hl, ho) :: (sl, listOf [].toArray 0) :: rest) (MachPost w hl ho sl (listOf [].toArray 0) rest) := by
    intro p loose mean mg mb dp un gd cn cs a ccd cl outer A₀ base h₀ L m s Q E B F X N T hk hd hu hret
    have hM := kdMark
    have hC := codeHd_K w X
    refine wpAny_call ?_
    k_dflt (refine' code_defC ?k1 ?k2 ?k3 ?k4 ?k5 ?kA ?kF ?kK ?k6 ?k7 ?k8 ?k9 ?kB ?kD ?_ ?c2 ?c3 ?c4; (case kA => exact rfl); (case kF => exact rfl); (case kK => assumption); (case k1 => k_asm); (case k2 => k_asm); (case k3 => k_asm); (case k4 => k_asm); (case k5 => k_asm); (case k6 => k_is); (case k7 => k_is); (case k8 => ktr_room); (case k9 => first | exact BindsTo.of_eq rfl | exact binds_K (by k_in) rfl (by k_is) rfl rfl rfl); (case kB => exact rfl); (case kD => decide +kernel); (case c2 => exact rfl); (case c3 => exact rfl); (case c4 => exact rfl); k_whole; intro g' L' h' tk' cells' FG' F' N' Y' B' X' T' l1; (try k_lt l1); k_cells Y'; (try simp only [List.cons_append, List.nil_append] at N'); (try dsimp only); (try k_lift B'); (try k_fold))
    (rename Frag.In _ _ => X9)
    have hC9 := codeHd_K w X9
    repeat' (first | (k_unfold; (try dsimp only)) | (k_end; wrow_close) | ((with_reducible show wpAny _ _ (PySem.setAttr (Value.ref _) _ _) _ _ _); (k_dflt (refine' set_dict ?zzk1 ?zzk2 ?zzk3 ?zzk4 ?zzk5 ?zzk6 ?zzk7 ?zzk8 ?zzk9 ?zzk10 ?zzk11 ?zzk12 ?zzk13 ?_; (case zzk1 => k_asm); (case zzk2 => k_asm); (case zzk3 => k_asm); (case zzk4 => k_inst); (case zzk5 => exact rfl); (case zzk6 => k_is); (case zzk7 => k_is); (case zzk8 => k_is); (case zzk9 => k_is); (case zzk10 => exact getL_some (by assumption)); (case zzk11 => exact rfl); (case zzk12 => k_upd); (case zzk13 => (refine Nat.le_trans (putL_len _ _ _ _ _) ?_; omega)); k_whole); intro h' F' N'; (try k_sweep))) | (((with_reducible show wpAny _ _ (subscriptTail _ _ (Value.ref _) (Value.int _ _)) _ _ _); k_dflt (refine' kda_item (knd := PySem.intKind _ _) ?zzN ?zzm ?zzd ?zzk ?zzv ?_ ?zzhs ?zzhg; (case zzd => assumption); (case zzm => assumption); (case zzN => k_asm); (case zzk => exact intKind_is _ _ _ _); (case zzv => assumption); (case zzhs => with_unfolding_all rfl); (case zzhg => (intro _; with_unfolding_all rfl)); k_whole))) | walk1 | (dsimp only; (first | ((with_reducible show wpAny _ _ (PySem.setAttr (Value.ref _) _ _) _ _ _); (k_dflt (refine' set_dict ?zzk1 ?zzk2 ?zzk3 ?zzk4 ?zzk5 ?zzk6 ?zzk7 ?zzk8 ?zzk9 ?zzk10 ?zzk11 ?zzk12 ?zzk13 ?_; (case zzk1 => k_asm); (case zzk2 => k_asm); (case zzk3 => k_asm); (case zzk4 => k_inst); (case zzk5 => exact rfl); (case zzk6 => k_is); (case zzk7 => k_is); (case zzk8 => k_is); (case zzk9 => k_is); (case zzk10 => exact getL_some (by assumption)); (case zzk11 => exact rfl); (case zzk12 => k_upd); (case zzk13 => (refine Nat.le_trans (putL_len _ _ _ _ _) ?_; omega)); k_whole); intro h' F' N'; (try k_sweep))) | (((with_reducible show wpAny _ _ (subscriptTail _ _ (Value.ref _) (Value.int _ _)) _ _ _); k_dflt (refine' kda_item (knd := PySem.intKind _ _) ?zzN ?zzm ?zzd ?zzk ?zzv ?_ ?zzhs ?zzhg; (case zzd => assumption); (case zzm => assumption); (case zzN => k_asm); (case zzk => exact intKind_is _ _ _ _); (case zzv => assumption); (case zzhs => with_unfolding_all rfl); (case zzhg => (intro _; with_unfolding_all rfl)); k_whole))) | walk1)) | (leave1; walk_say "STEP leave1"; try dsimp only) | fail "no step")
    rename News h₀ L _ _ => hN
    refine' mach_fin hret (by k_asm) hN ?m1 ?m2 ?m3 ?m4 ?m5 ?m6 ?m7 ?m8 ?m9 ?ma ?mb ?mr ?e1 ?e2 ?g1 ?g2 ?g3 ?g4 ?hT ?hF ?hS ?lo ?la ?hi ?hc
    case m7 => k_mem
    case m8 => k_mem
    case e1 => k_get
    case e2 => k_get
    case m1 => k_mem
    case m4 => k_mem
    case g1 => exact rfl
    case g2 => exact rfl
    case g3 => exact rfl
    case g4 => exact rfl
    case m2 => k_mem
    case m3 => k_mem
    case m5 => k_mem
    case m6 => k_mem
    case m9 => k_mem
    case ma => k_mem
    case mb => k_mem
    case mr => intro p hp; simp [hp]
    case lo => exact ⟨(by assumption : 128 < _ ∧ hl < _ ∧ sl < _ ∧ AllLt _ rest).1, (by assumption : 128 < _ ∧ hl < _ ∧ sl < _ ∧ AllLt _ rest).2.1, (by assumption : 128 < _ ∧ hl < _ ∧ sl < _ ∧ AllLt _ rest).2.2.1⟩
    case la => exact (by assumption : 128 < _ ∧ hl < _ ∧ sl < _ ∧ AllLt _ rest).2.2.2
    case hi => (dsimp only; omega)
    case hc => (right; omega)
    case hT => exact .inr ⟨_, _, _, _, _, _, _, _, rfl, List.Mem.head _, List.Mem.tail _ (List.Mem.head _), by assumption, by assumption, by assumption, by assumption⟩
    case hF =>
      intro news ho1 kvs th e va vb k t n v hsub hho hd1 he hval
      simp only [List.forall_mem_cons] at hsub
      obtain ⟨q1, q2, q3, _⟩ := hsub
      intro p loose mean mg1 mb dp un gd cn cs a ccd cl outer A₀ base h₀ L m s Q E B F X N T hk hd hu hret
      refine wpAny_call ?_
      k_dflt ((refine' code_nest ?k1 ?k2 ?k3 ?k4 ?k5 ?kA ?kF ?kK ?k6 ?k7 ?k8 ?k9 ?kB ?_ ?c2 ?c3 ?c4 ?c5; (case kA => exact rfl); (case kF => exact rfl); (case kK => assumption); (case k1 => k_asm); (case k2 => k_asm); (case k3 => k_asm); (case k4 => k_asm); (case k5 => k_asm); (case k6 => assumption); (case k7 => exact codeRec_news (by k_asm) (by assumption) (by assumption) (by assumption)); (case k8 => ktr_room); (case k9 => exact BindsTo.of_eq rfl); (case c5 => decide); (case kB => exact locs rfl); (case c2 => exact rfl); (case c3 => exact rfl); (case c4 => exact rfl); k_whole; intro g' L' h' FG' F' N' B' X' T'; (try dsimp only); (try k_fold)))
      repeat' (first | (k_unfold; (try dsimp only)) | (k_end; wrow_close) | ((with_reducible show wpAny _ _ (PySem.setAttr (Value.ref _) _ _) _ _ _); (k_dflt (refine' set_dict ?zzk1 ?zzk2 ?zzk3 ?zzk4 ?zzk5 ?zzk6 ?zzk7 ?zzk8 ?zzk9 ?zzk10 ?zzk11 ?zzk12 ?zzk13 ?_; (case zzk1 => k_asm); (case zzk2 => k_asm); (case zzk3 => k_asm); (case zzk4 => k_inst); (case zzk5 => exact rfl); (case zzk6 => k_is); (case zzk7 => k_is); (case zzk8 => k_is); (case zzk9 => k_is); (case zzk10 => exact getL_some (by assumption)); (case zzk11 => exact rfl); (case zzk12 => k_upd); (case zzk13 => (refine Nat.le_trans (putL_len _ _ _ _ _) ?_; omega)); k_whole); intro h' F' N'; (try k_sweep))) | (((with_reducible show wpAny _ _ (subscriptTail _ _ (Value.ref _) (Value.int _ _)) _ _ _); k_dflt (refine' kda_item (knd := PySem.intKind _ _) ?zzN ?zzm ?zzd ?zzk ?zzv ?_ ?zzhs ?zzhg; (case zzd => assumption); (case zzm => assumption); (case zzN => k_asm); (case zzk => exact intKind_is _ _ _ _); (case zzv => assumption); (case zzhs => with_unfolding_all rfl); (case zzhg => (intro _; with_unfolding_all rfl)); k_whole))) | walk1 | (dsimp only; (first | ((with_reducible show wpAny _ _ (PySem.setAttr (Value.ref _) _ _) _ _ _); (k_dflt (refine' set_dict ?zzk1 ?zzk2 ?zzk3 ?zzk4 ?zzk5 ?zzk6 ?zzk7 ?zzk8 ?zzk9 ?zzk10 ?zzk11 ?zzk12 ?zzk13 ?_; (case zzk1 => k_asm); (case zzk2 => k_asm); (case zzk3 => k_asm); (case zzk4 => k_inst); (case zzk5 => exact rfl); (case zzk6 => k_is); (case zzk7 => k_is); (case zzk8 => k_is); (case zzk9 => k_is); (case zzk10 => exact getL_some (by assumption)); (case zzk11 => exact rfl); (case zzk12 => k_upd); (case zzk13 => (refine Nat.le_trans (putL_len _ _ _ _ _) ?_; omega)); k_whole); intro h' F' N'; (try k_sweep))) | (((with_reducible show wpAny _ _ (subscriptTail _ _ (Value.ref _) (Value.int _ _)) _ _ _); k_dflt (refine' kda_item (knd := PySem.intKind _ _) ?zzN ?zzm ?zzd ?zzk ?zzv ?_ ?zzhs ?zzhg; (case zzd => assumption); (case zzm => assumption); (case zzN => k_asm); (case zzk => exact intKind_is _ _ _ _); (case zzv => assumption); (case zzhs => with_unfolding_all rfl); (case zzhg => (intro _; with_unfolding_all rfl)); k_whole))) | walk1)) | (leave1; walk_say "STEP leave1"; try dsimp only) | fail "no step")
      exact hret _ _ _ _ (by k_asm) (by k_asm) ⟨rfl, rfl⟩
    case hS =>
      intro r2 xs n th dt es nT w0 wv kl vs ns nn hsub hoff hne hth hw0 hes hxs hwv hkl hvs hns
      simp only [List.forall_mem_cons] at hsub
      obtain ⟨q1, q2, q3, _⟩ := hsub
      have p1 := List.Mem.tail (sl, listOf xs.toArray n) (List.Mem.tail (dt, dictOf es nT) q1)
      have p2 := List.Mem.tail (sl, listOf xs.toArray n) (List.Mem.tail (dt, dictOf es nT) q2)
      clear q1 q2
      intro p loose mean mg1 mb dp un gd cn cs a ccd cl outer A₀ base h₀ L m s Q E B F X N T hk hd hu hret
      have hM9 := kdMark
      have hvl := hvs.length
      refine wpAny_call ?_
      k_dflt ((refine' code_nest ?k1 ?k2 ?k3 ?k4 ?k5 ?kA ?kF ?kK ?k6 ?k7 ?k8 ?k9 ?kB ?_ ?c2 ?c3 ?c4 ?c5; (case kA => exact rfl); (case kF => exact rfl); (case kK => assumption); (case k1 => k_asm); (case k2 => k_asm); (case k3 => k_asm); (case k4 => k_asm); (case k5 => k_asm); (case k6 => assumption); (case k7 => exact codeRec_news (by k_asm) (by assumption) (by assumption) (by assumption)); (case k8 => ktr_room); (case k9 => exact BindsTo.of_eq rfl); (case c5 => decide); (case kB => exact locs rfl); (case c2 => exact rfl); (case c3 => exact rfl); (case c4 => exact rfl); k_whole; intro g' L' h' FG' F' N' B' X' T'; (try dsimp only); (try k_fold)))
      repeat' (first | (k_unfold; (try dsimp only)) | (k_end; wrow_close) | ((with_reducible show wpAny _ _ (PySem.setAttr (Value.ref _) _ _) _ _ _); (k_dflt (refine' set_dict ?zzk1 ?zzk2 ?zzk3 ?zzk4 ?zzk5 ?zzk6 ?zzk7 ?zzk8 ?zzk9 ?zzk10 ?zzk11 ?zzk12 ?zzk13 ?_; (case zzk1 => k_asm); (case zzk2 => k_asm); (case zzk3 => k_asm); (case zzk4 => k_inst); (case zzk5 => exact rfl); (case zzk6 => k_is); (case zzk7 => k_is); (case zzk8 => k_is); (case zzk9 => k_is); (case zzk10 => exact getL_some (by assumption)); (case zzk11 => exact rfl); (case zzk12 => k_upd); (case zzk13 => (refine Nat.le_trans (putL_len _ _ _ _ _) ?_; omega)); k_whole); intro h' F' N'; (try k_sweep))) | (((with_reducible show wpAny _ _ (subscriptTail _ _ (Value.ref _) (Value.int _ _)) _ _ _); k_dflt (refine' kda_item (knd := PySem.intKind _ _) ?zzN ?zzm ?zzd ?zzk ?zzv ?_ ?zzhs ?zzhg; (case zzd => assumption); (case zzm => assumption); (case zzN => k_asm); (case zzk => exact intKind_is _ _ _ _); (case zzv => assumption); (case zzhs => with_unfolding_all rfl); (case zzhg => (intro _; with_unfolding_all rfl)); k_whole))) | walk1 | (dsimp only; (first | ((with_reducible show wpAny _ _ (PySem.setAttr (Value.ref _) _ _) _ _ _); (k_dflt (refine' set_dict ?zzk1 ?zzk2 ?zzk3 ?zzk4 ?zzk5 ?zzk6 ?zzk7 ?zzk8 ?zzk9 ?zzk10 ?zzk11 ?zzk12 ?zzk13 ?_; (case zzk1 => k_asm); (case zzk2 => k_asm); (case zzk3 => k_asm); (case zzk4 => k_inst); (case zzk5 => exact rfl); (case zzk6 => k_is); (case zzk7 => k_is); (case zzk8 => k_is); (case zzk9 => k_is); (case zzk10 => exact getL_some (by assumption)); (case zzk11 => exact rfl); (case zzk12 => k_upd); (case zzk13 => (refine Nat.le_trans (putL_len _ _ _ _ _) ?_; omega)); k_whole); intro h' F' N'; (try k_sweep))) | (((with_reducible show wpAny _ _ (subscriptTail _ _ (Value.ref _) (Value.int _ _)) _ _ _); k_dflt (refine' kda_item (knd := PySem.intKind _ _) ?zzN ?zzm ?zzd ?zzk ?zzv ?_ ?zzhs ?zzhg; (case zzd => assumption); (case zzm => assumption); (case zzN => k_asm); (case zzk => exact intKind_is _ _ _ _); (case zzv => assumption); (case zzhs => with_unfolding_all rfl); (case zzhg => (intro _; with_unfolding_all rfl)); k_whole))) | walk1)) | (leave1; walk_say "STEP leave1"; try dsimp only) | fail "no step")
      rename News h₀ L _ _ => hN2
      rename _ ∧ _ ∧ AllLt _ r2 => hlt
      exact sleep_fin hret (by k_asm) hN2 (by rfl) hvs hlt
end
section
open PySem PySem.W PyProof.Rows PySem.Calls PyProof.V
theorem freshMachine1 : True := by
  w_top off
  trivial

local macro_rules | `(tactic| is_list) => `(tactic| exact isListM (by k_asm) (by k_mem))
local macro_rules | `(tactic| size_fits) => `(tactic| (refine fitsM (n := 100) ?_ (by decide); omega))
set_option maxRecDepth 100000 in
set_option maxHeartbeats 8000000 in
theorem machine_c1 (w : World) (hl : Addr) (ho : Obj) (sl : Addr) (rest : Led) (c1 c2 : Addr) (oc1 oc2 : Obj) (v1 v2 : Array Value) (t1 t2 : Tok) (mc1 : (c1, oc1) ∈ rest) (mc2 : (c2, oc2) ∈ rest)
    (dc1 : oc1.data = .fields v1) (dv1 : v1[1]? = some (.str "_law_machine.<locals>._law_found" t1)) (dc2 : oc2.data = .fields v2) (dv2 : v2[1]? = some (.str "_law_machine.<locals>._law_sleep" t2)) (o1 : OwnOff rest [128, hl, sl]) (h1 : hl ≠ 128) (h2 : sl ≠ 128) (h3 : sl ≠ hl) :
    Ctr w 133 [.ref hl, .ref sl] 4 128 ((128, tabObj #[rawInt 132, rawInt 4, Value.ref c1, rawInt 135, rawInt 4, Value.ref c2]) :: (hl, ho) :: (sl, listOf [].toArray 0) :: rest) (MachPost w hl ho sl (listOf [].toArray 0) rest) := by
    intro p loose mean mg mb dp un gd cn cs a ccd cl outer A₀ base h₀ L m s Q E B F X N T hk hd hu hret
    have hM := kdMark
    have hC := codeHd_K w X
    refine wpAny_call ?_
    k_dflt (refine' code_defC ?k1 ?k2 ?k3 ?k4 ?k5 ?kA ?kF ?kK ?k6 ?k7 ?k8 ?k9 ?kB ?kD ?_ ?c2 ?c3 ?c4; (case kA => exact rfl); (case kF => exact rfl); (case kK => assumption); (case k1 => k_asm); (case k2 => k_asm); (case k3 => k_asm); (case k4 => k_asm); (case k5 => k_asm); (case k6 => k_is); (case k7 => k_is); (case k8 => ktr_room); (case k9 => first | exact BindsTo.of_eq rfl | exact binds_K (by k_in) rfl (by k_is) rfl rfl rfl); (case kB => exact rfl); (case kD => decide +kernel); (case c2 => exact rfl); (case c3 => exact rfl); (case c4 => exact rfl); k_whole; intro g' L' h' tk' cells' FG' F' N' Y' B' X' T' l1; (try k_lt l1); k_cells Y'; (try simp only [List.cons_append, List.nil_append] at N'); (try dsimp only); (try k_lift B'); (try k_fold))
    (rename Frag.In _ _ => X9)
    have hC9 := codeHd_K w X9
    repeat' (first | (k_unfold; (try dsimp only)) | (k_end; wrow_close) | ((with_reducible show wpAny _ _ (PySem.setAttr (Value.ref _) _ _) _ _ _); (k_dflt (refine' set_dict ?zzk1 ?zzk2 ?zzk3 ?zzk4 ?zzk5 ?zzk6 ?zzk7 ?zzk8 ?zzk9 ?zzk10 ?zzk11 ?zzk12 ?zzk13 ?_; (case zzk1 => k_asm); (case zzk2 => k_asm); (case zzk3 => k_asm); (case zzk4 => k_inst); (case zzk5 => exact rfl); (case zzk6 => k_is); (case zzk7 => k_is); (case zzk8 => k_is); (case zzk9 => k_is); (case zzk10 => exact getL_some (by assumption)); (case zzk11 => exact rfl); (case zzk12 => k_upd); (case zzk13 => (refine Nat.le_trans (putL_len _ _ _ _ _) ?_; omega)); k_whole); intro h' F' N'; (try k_sweep))) | (((with_reducible show wpAny _ _ (subscriptTail _ _ (Value.ref _) (Value.int _ _)) _ _ _); k_dflt (refine' kda_item (knd := PySem.intKind _ _) ?zzN ?zzm ?zzd ?zzk ?zzv ?_ ?zzhs ?zzhg; (case zzd => assumption); (case zzm => assumption); (case zzN => k_asm); (case zzk => exact intKind_is _ _ _ _); (case zzv => assumption); (case zzhs => with_unfolding_all rfl); (case zzhg => (intro _; with_unfolding_all rfl)); k_whole))) | walk1 | (dsimp only; (first | ((with_reducible show wpAny _ _ (PySem.setAttr (Value.ref _) _ _) _ _ _); (k_dflt (refine' set_dict ?zzk1 ?zzk2 ?zzk3 ?zzk4 ?zzk5 ?zzk6 ?zzk7 ?zzk8 ?zzk9 ?zzk10 ?zzk11 ?zzk12 ?zzk13 ?_; (case zzk1 => k_asm); (case zzk2 => k_asm); (case zzk3 => k_asm); (case zzk4 => k_inst); (case zzk5 => exact rfl); (case zzk6 => k_is); (case zzk7 => k_is); (case zzk8 => k_is); (case zzk9 => k_is); (case zzk10 => exact getL_some (by assumption)); (case zzk11 => exact rfl); (case zzk12 => k_upd); (case zzk13 => (refine Nat.le_trans (putL_len _ _ _ _ _) ?_; omega)); k_whole); intro h' F' N'; (try k_sweep))) | (((with_reducible show wpAny _ _ (subscriptTail _ _ (Value.ref _) (Value.int _ _)) _ _ _); k_dflt (refine' kda_item (knd := PySem.intKind _ _) ?zzN ?zzm ?zzd ?zzk ?zzv ?_ ?zzhs ?zzhg; (case zzd => assumption); (case zzm => assumption); (case zzN => k_asm); (case zzk => exact intKind_is _ _ _ _); (case zzv => assumption); (case zzhs => with_unfolding_all rfl); (case zzhg => (intro _; with_unfolding_all rfl)); k_whole))) | walk1)) | (leave1; walk_say "STEP leave1"; try dsimp only) | fail "no step")
    rename News h₀ L _ _ => hN
    refine' mach_fin hret (by k_asm) hN ?m1 ?m2 ?m3 ?m4 ?m5 ?m6 ?m7 ?m8 ?m9 ?ma ?mb ?mr ?e1 ?e2 ?g1 ?g2 ?g3 ?g4 ?hT ?hF ?hS ?lo ?la ?hi ?hc
    case m7 => k_mem
    case m8 => k_mem
    case e1 => k_get
    case e2 => k_get
    case m1 => k_mem
    case m4 => k_mem
    case g1 => exact rfl
    case g2 => exact rfl
    case g3 => exact rfl
    case g4 => exact rfl
    case m2 => k_mem
    case m3 => k_mem
    case m5 => k_mem
    case m6 => k_mem
    case m9 => k_mem
    case ma => k_mem
    case mb => k_mem
    case mr => intro p hp; simp [hp]
    case lo => exact ⟨(by assumption : 128 < _ ∧ hl < _ ∧ sl < _ ∧ AllLt _ rest).1, (by assumption : 128 < _ ∧ hl < _ ∧ sl < _ ∧ AllLt _ rest).2.1, (by assumption : 128 < _ ∧ hl < _ ∧ sl < _ ∧ AllLt _ rest).2.2.1⟩
    case la => exact (by assumption : 128 < _ ∧ hl < _ ∧ sl < _ ∧ AllLt _ rest).2.2.2
    case hi => (dsimp only; omega)
    case hc => exact .inl ⟨mc1, mc2⟩
    case hT => exact .inr ⟨_, _, _, _, _, _, _, _, rfl, List.Mem.head _, List.Mem.tail _ (List.Mem.head _), by assumption, by assumption, by assumption, by assumption⟩
    case hF =>
      intro news ho1 kvs th e va vb k t n v hsub hho hd1 he hval
      simp only [List.forall_mem_cons] at hsub
      obtain ⟨q1, q2, q3, _⟩ := hsub
      intro p loose mean mg1 mb dp un gd cn cs a ccd cl outer A₀ base h₀ L m s Q E B F X N T hk hd hu hret
      refine wpAny_call ?_
      k_dflt ((refine' code_nest ?k1 ?k2 ?k3 ?k4 ?k5 ?kA ?kF ?kK ?k6 ?k7 ?k8 ?k9 ?kB ?_ ?c2 ?c3 ?c4 ?c5; (case kA => exact rfl); (case kF => exact rfl); (case kK => assumption); (case k1 => k_asm); (case k2 => k_asm); (case k3 => k_asm); (case k4 => k_asm); (case k5 => k_asm); (case k6 => assumption); (case k7 => exact codeRec_news (by k_asm) (by assumption) (by assumption) (by assumption)); (case k8 => ktr_room); (case k9 => exact BindsTo.of_eq rfl); (case c5 => decide); (case kB => exact locs rfl); (case c2 => exact rfl); (case c3 => exact rfl); (case c4 => exact rfl); k_whole; intro g' L' h' FG' F' N' B' X' T'; (try dsimp only); (try k_fold)))
      repeat' (first | (k_unfold; (try dsimp only)) | (k_end; wrow_close) | ((with_reducible show wpAny _ _ (PySem.setAttr (Value.ref _) _ _) _ _ _); (k_dflt (refine' set_dict ?zzk1 ?zzk2 ?zzk3 ?zzk4 ?zzk5 ?zzk6 ?zzk7 ?zzk8 ?zzk9 ?zzk10 ?zzk11 ?zzk12 ?zzk13 ?_; (case zzk1 => k_asm); (case zzk2 => k_asm); (case zzk3 => k_asm); (case zzk4 => k_inst); (case zzk5 => exact rfl); (case zzk6 => k_is); (case zzk7 => k_is); (case zzk8 => k_is); (case zzk9 => k_is); (case zzk10 => exact getL_some (by assumption)); (case zzk11 => exact rfl); (case zzk12 => k_upd); (case zzk13 => (refine Nat.le_trans (putL_len _ _ _ _ _) ?_; omega)); k_whole); intro h' F' N'; (try k_sweep))) | (((with_reducible show wpAny _ _ (subscriptTail _ _ (Value.ref _) (Value.int _ _)) _ _ _); k_dflt (refine' kda_item (knd := PySem.intKind _ _) ?zzN ?zzm ?zzd ?zzk ?zzv ?_ ?zzhs ?zzhg; (case zzd => assumption); (case zzm => assumption); (case zzN => k_asm); (case zzk => exact intKind_is _ _ _ _); (case zzv => assumption); (case zzhs => with_unfolding_all rfl); (case zzhg => (intro _; with_unfolding_all rfl)); k_whole))) | walk1 | (dsimp only; (first | ((with_reducible show wpAny _ _ (PySem.setAttr (Value.ref _) _ _) _ _ _); (k_dflt (refine' set_dict ?zzk1 ?zzk2 ?zzk3 ?zzk4 ?zzk5 ?zzk6 ?zzk7 ?zzk8 ?zzk9 ?zzk10 ?zzk11 ?zzk12 ?zzk13 ?_; (case zzk1 => k_asm); (case zzk2 => k_asm); (case zzk3 => k_asm); (case zzk4 => k_inst); (case zzk5 => exact rfl); (case zzk6 => k_is); (case zzk7 => k_is); (case zzk8 => k_is); (case zzk9 => k_is); (case zzk10 => exact getL_some (by assumption)); (case zzk11 => exact rfl); (case zzk12 => k_upd); (case zzk13 => (refine Nat.le_trans (putL_len _ _ _ _ _) ?_; omega)); k_whole); intro h' F' N'; (try k_sweep))) | (((with_reducible show wpAny _ _ (subscriptTail _ _ (Value.ref _) (Value.int _ _)) _ _ _); k_dflt (refine' kda_item (knd := PySem.intKind _ _) ?zzN ?zzm ?zzd ?zzk ?zzv ?_ ?zzhs ?zzhg; (case zzd => assumption); (case zzm => assumption); (case zzN => k_asm); (case zzk => exact intKind_is _ _ _ _); (case zzv => assumption); (case zzhs => with_unfolding_all rfl); (case zzhg => (intro _; with_unfolding_all rfl)); k_whole))) | walk1)) | (leave1; walk_say "STEP leave1"; try dsimp only) | fail "no step")
      exact hret _ _ _ _ (by k_asm) (by k_asm) ⟨rfl, rfl⟩
    case hS =>
      intro r2 xs n th dt es nT w0 wv kl vs ns nn hsub hoff hne hth hw0 hes hxs hwv hkl hvs hns
      simp only [List.forall_mem_cons] at hsub
      obtain ⟨q1, q2, q3, _⟩ := hsub
      have p1 := List.Mem.tail (sl, listOf xs.toArray n) (List.Mem.tail (dt, dictOf es nT) q1)
      have p2 := List.Mem.tail (sl, listOf xs.toArray n) (List.Mem.tail (dt, dictOf es nT) q2)
      clear q1 q2
      intro p loose mean mg1 mb dp un gd cn cs a ccd cl outer A₀ base h₀ L m s Q E B F X N T hk hd hu hret
      have hM9 := kdMark
      have hvl := hvs.length
      refine wpAny_call ?_
      k_dflt ((refine' code_nest ?k1 ?k2 ?k3 ?k4 ?k5 ?kA ?kF ?kK ?k6 ?k7 ?k8 ?k9 ?kB ?_ ?c2 ?c3 ?c4 ?c5; (case kA => exact rfl); (case kF => exact rfl); (case kK => assumption); (case k1 => k_asm); (case k2 => k_asm); (case k3 => k_asm); (case k4 => k_asm); (case k5 => k_asm); (case k6 => assumption); (case k7 => exact codeRec_news (by k_asm) (by assumption) (by assumption) (by assumption)); (case k8 => ktr_room); (case k9 => exact BindsTo.of_eq rfl); (case c5 => decide); (case kB => exact locs rfl); (case c2 => exact rfl); (case c3 => exact rfl); (case c4 => exact rfl); k_whole; intro g' L' h' FG' F' N' B' X' T'; (try dsimp only); (try k_fold)))
      repeat' (first | (k_unfold; (try dsimp only)) | (k_end; wrow_close) | ((with_reducible show wpAny _ _ (PySem.setAttr (Value.ref _) _ _) _ _ _); (k_dflt (refine' set_dict ?zzk1 ?zzk2 ?zzk3 ?zzk4 ?zzk5 ?zzk6 ?zzk7 ?zzk8 ?zzk9 ?zzk10 ?zzk11 ?zzk12 ?zzk13 ?_; (case zzk1 => k_asm); (case zzk2 => k_asm); (case zzk3 => k_asm); (case zzk4 => k_inst); (case zzk5 => exact rfl); (case zzk6 => k_is); (case zzk7 => k_is); (case zzk8 => k_is); (case zzk9 => k_is); (case zzk10 => exact getL_some (by assumption)); (case zzk11 => exact rfl); (case zzk12 => k_upd); (case zzk13 => (refine Nat.le_trans (putL_len _ _ _ _ _) ?_; omega)); k_whole); intro h' F' N'; (try k_sweep))) | (((with_reducible show wpAny _ _ (subscriptTail _ _ (Value.ref _) (Value.int _ _)) _ _ _); k_dflt (refine' kda_item (knd := PySem.intKind _ _) ?zzN ?zzm ?zzd ?zzk ?zzv ?_ ?zzhs ?zzhg; (case zzd => assumption); (case zzm => assumption); (case zzN => k_asm); (case zzk => exact intKind_is _ _ _ _); (case zzv => assumption); (case zzhs => with_unfolding_all rfl); (case zzhg => (intro _; with_unfolding_all rfl)); k_whole))) | walk1 | (dsimp only; (first | ((with_reducible show wpAny _ _ (PySem.setAttr (Value.ref _) _ _) _ _ _); (k_dflt (refine' set_dict ?zzk1 ?zzk2 ?zzk3 ?zzk4 ?zzk5 ?zzk6 ?zzk7 ?zzk8 ?zzk9 ?zzk10 ?zzk11 ?zzk12 ?zzk13 ?_; (case zzk1 => k_asm); (case zzk2 => k_asm); (case zzk3 => k_asm); (case zzk4 => k_inst); (case zzk5 => exact rfl); (case zzk6 => k_is); (case zzk7 => k_is); (case zzk8 => k_is); (case zzk9 => k_is); (case zzk10 => exact getL_some (by assumption)); (case zzk11 => exact rfl); (case zzk12 => k_upd); (case zzk13 => (refine Nat.le_trans (putL_len _ _ _ _ _) ?_; omega)); k_whole); intro h' F' N'; (try k_sweep))) | (((with_reducible show wpAny _ _ (subscriptTail _ _ (Value.ref _) (Value.int _ _)) _ _ _); k_dflt (refine' kda_item (knd := PySem.intKind _ _) ?zzN ?zzm ?zzd ?zzk ?zzv ?_ ?zzhs ?zzhg; (case zzd => assumption); (case zzm => assumption); (case zzN => k_asm); (case zzk => exact intKind_is _ _ _ _); (case zzv => assumption); (case zzhs => with_unfolding_all rfl); (case zzhg => (intro _; with_unfolding_all rfl)); k_whole))) | walk1)) | (leave1; walk_say "STEP leave1"; try dsimp only) | fail "no step")
      rename News h₀ L _ _ => hN2
      rename _ ∧ _ ∧ AllLt _ r2 => hlt
      exact sleep_fin hret (by k_asm) hN2 (by rfl) hvs hlt
end
section
open PySem PySem.W PyProof.Rows PySem.Calls PyProof.V
structure Ev where
  so : Str
  ev : Bool
  wd : Int
  key : Int
def evTag (e : Ev) : Str := if e.ev then "event" else "sig"
abbrev evD (e : Ev) : Dat := .tuple [.str e.so, .tuple [.str (evTag e), .int e.wd, .int e.key]]
structure EvOk (nk : Int) (e : Ev) : Prop where
  so : e.so = "any" ∨ e.so = "pos" ∨ e.so = "neg"
  k0 : 0 ≤ e.key
  k9 : e.key < 9
  sig : e.ev = false → e.key < nk
abbrev V3 := Int × Int × Int
def VecAt (rest : Led) (v : Value) (t : V3) : Prop :=
  ∃ x t1 t2 t3 n, v = .ref x ∧ (x, vecO t.1 t.2.1 t.2.2 t1 t2 t3 n) ∈ rest ∧ 0 ≤ t.2.1 ∧ t.2.1 < 8 ∧ 0 ≤ t.2.2 ∧ t.2.2 < 8
theorem VecAt.mono {r r' : Led} {v : Value} {t : V3} (h : VecAt r v t) (hs : ∀ p ∈ r, p ∈ r') : VecAt r' v t := by
  obtain ⟨x, t1, t2, t3, n, a, b, c⟩ := h
  exact ⟨x, t1, t2, t3, n, a, hs _ b, c⟩
def HeldOk (nk : Int) (kvs : List (Int × Value)) (hv : Int → V3) (rest : Led) : Prop :=
  ∀ k, 0 ≤ k → k < nk → ∃ v, valueAt kvs k = some v ∧ VecAt rest v (hv k)
theorem HeldOk.mono {nk : Int} {kvs : List (Int × Value)} {hv : Int → V3} {r r' : Led} (h : HeldOk nk kvs hv r) (hs : ∀ p ∈ r, p ∈ r') : HeldOk nk kvs hv r' := fun k a b =>
  let ⟨v, e, q⟩ := h k a b; ⟨v, e, q.mono hs⟩
def heldV (kvs : List (Int × Value)) (k : Int) : Value := (valueAt kvs k).getD .none
def lastV (kvs : List (Int × Value)) (e : Ev) : Value := if e.ev then .none else heldV kvs e.key
def EvsAt (rest : Led) (l : Addr) (evs : List Ev) : Prop := ∃ vs n, (l, listOf vs.toArray n) ∈ rest ∧ DatAll rest vs (evs.map evD)
theorem EvsAt.mono {r r' : Led} {l : Addr} {evs : List Ev} (h : EvsAt r l evs) (hs : ∀ p ∈ r, p ∈ r') : EvsAt r' l evs := by
  obtain ⟨vs, n, a, b⟩ := h
  exact ⟨vs, n, hs _ a, b.mono hs⟩
theorem ev_open {rest : Led} {v : Value} {e : Ev} (h : DatIn rest v (evD e)) :
    ∃ x y t1 t2 t3 t4 n1 n2, v = .ref x ∧ (x, tupOf [.str e.so t1, .ref y] n1) ∈ rest ∧ (y, tupOf [.str (evTag e) t2, .int e.wd t3, .int e.key t4] n2) ∈ rest := by
  cases h with
  | tuple hm r =>
    rename_i a vs n
    cases r with
    | cons h1 r =>
      rename_i v1 vs1
      cases r with
      | cons h2 r =>
        rename_i v2 vs2
        cases r
        cases h1 with
        | str _ t1 =>
          cases h2 with
          | tuple hm2 r2 =>
            cases r2 with
            | cons g1 r2 =>
              cases r2 with
              | cons g2 r2 =>
                cases r2 with
                | cons g3 r2 =>
                  cases r2
                  cases g1
                  cases g2
                  cases g3
                  exact ⟨_, _, _, _, _, _, _, _, rfl, hm, hm2⟩
theorem evs_get {rest : Led} {vs : List Value} {evs : List Ev} (h : DatAll rest vs (evs.map evD)) {i : Nat} {v : Value} (hv : vs[i]? = some v) : ∃ e, evs[i]? = some e ∧ DatIn rest v (evD e) := by
  have hl := h.length
  rw [List.length_map] at hl
  have hi : i < evs.length := by rw [← hl]; exact (List.getElem?_eq_some_iff.mp hv).1
  obtain ⟨v', hv', hD⟩ := h.get (k := i) (by rw [List.length_map]; exact hi)
  rw [hv] at hv'
  cases hv'
  refine ⟨evs[i], List.getElem?_eq_getElem hi, ?_⟩
  simpa using hD
structure KeysOf (ks : List Int) (evs : List Ev) : Prop where
  sorted : ks.Pairwise (· ≤ ·)
  nodup : ks.Nodup
  mem : ∀ k, k ∈ ks ↔ ∃ e ∈ evs, e.key = k
theorem sorted_nodup_ext {a b : List Int} (ha : a.Pairwise (· ≤ ·)) (hb : b.Pairwise (· ≤ ·)) (na : a.Nodup) (nb : b.Nodup) (h : ∀ k, k ∈ a ↔ k ∈ b) : a = b :=
  List.Perm.eq_of_pairwise (le := fun x y => x ≤ y) (fun x y _ _ h1 h2 => Int.le_antisymm h1 h2) ha hb ((List.perm_ext_iff_of_nodup na nb).mpr h)
theorem KeysOf.unique {a b : List Int} {evs : List Ev} (ha : KeysOf a evs) (hb : KeysOf b evs) : a = b :=
  sorted_nodup_ext ha.sorted hb.sorted ha.nodup hb.nodup fun k => (ha.mem k).trans (hb.mem k).symm
theorem machine_c (w : World) (hl : Addr) (ho : Obj) (sl : Addr) (rest : Led) (ps : Array Value) (hT : TabS ps rest) (o1 : OwnOff rest [128, hl, sl]) (h1 : hl ≠ 128) (h2 : sl ≠ 128) (h3 : sl ≠ hl) :
    Ctr w 133 [.ref hl, .ref sl] 4 128 ((128, tabObj ps) :: (hl, ho) :: (sl, listOf [].toArray 0) :: rest) (MachPost w hl ho sl (listOf [].toArray 0) rest) := by
  rcases hT with h | ⟨c1, c2, oc1, oc2, v1, v2, t1, t2, h, a, b, c, d, e, f⟩
  · subst h; exact machine_c0 w hl ho sl rest o1 h1 h2 h3
  · subst h; exact machine_c1 w hl ho sl rest c1 c2 oc1 oc2 v1 v2 t1 t2 a b c d e f o1 h1 h2 h3
end
section
open PySem PySem.W PyProof.Rows PySem.Calls PyProof.V
theorem dict_nodup {prog : Program} {w : World} {K : Type} [DecidableEq K] {knd : KeyKind prog w K} {o : Obj} {kvs : List (K × Value)} (h : o.IsDictOf knd kvs) : (kvs.map (·.1)).Nodup := by
  obtain ⟨_, _, _, _, _, _, h⟩ := h; exact h
section
variable {K : Type} [DecidableEq K]
theorem stored_mem (kvs : List (K × Value)) (k : K) (v : Value) (k' : K) : k' ∈ (stored kvs k v).map (·.1) ↔ k' = k ∨ k' ∈ kvs.map (·.1) := by
  unfold stored
  by_cases h : (kvs.any fun kv => kv.1 = k) = true
  · rw [if_pos h]
    have e : (kvs.map fun kv => if kv.1 = k then (kv.1, v) else kv).map (·.1) = kvs.map (·.1) := by
      rw [List.map_map]
      apply List.map_congr_left
      intro p _
      simp only [Function.comp]
      split <;> rfl
    rw [e]
    obtain ⟨q, hq, hk⟩ := List.any_eq_true.mp h
    have hk' : q.1 = k := by simpa using hk
    constructor
    · exact .inr
    · rintro (e | h)
      · rw [e, ← hk']; exact List.mem_map.mpr ⟨q, hq, rfl⟩
      · exact h
  · rw [if_neg h]
    simp [or_comm]
theorem valueAt_stored (kvs : List (K × Value)) (k : K) (v : Value) (k' : K) : valueAt (stored kvs k v) k' = if k' = k then some v else valueAt kvs k' := by
  unfold stored
  by_cases h : (kvs.any fun kv => kv.1 = k) = true
  · rw [if_pos h]
    unfold valueAt
    by_cases e : k' = k
    · subst e
      rw [if_pos rfl]
      induction kvs with
      | nil => simp at h
      | cons p r ih =>
        by_cases c : p.1 = k'
        · simp [c]
        · have h' : (r.any fun kv => kv.1 = k') = true := by simpa [c] using h
          have := ih h'
          simp [c] at this ⊢
          exact this
    · rw [if_neg e]
      clear h
      induction kvs with
      | nil => rfl
      | cons p r ih =>
        by_cases c : p.1 = k
        · have c' : ¬ p.1 = k' := fun q => e (by rw [← q, c])
          have c2 : ¬ k = k' := fun q => e q.symm
          simp only [List.map_cons, List.find?_cons, c, if_true] at ih ⊢
          simp only [decide_eq_false c2]
          exact ih
        · simp only [List.map_cons, List.find?_cons, if_neg c] at ih ⊢
          by_cases d : p.1 = k'
          · simp [d]
          · simp only [decide_eq_false d]; exact ih
  · rw [if_neg h]
    unfold valueAt
    by_cases e : k' = k
    · subst e
      rw [if_pos rfl]
      have hn : kvs.find? (fun kv => decide (kv.1 = k')) = none := by
        apply List.find?_eq_none.mpr
        intro p hp q
        exact h (List.any_eq_true.mpr ⟨p, hp, q⟩)
      simp [List.find?_append, hn]
    · rw [if_neg e]
      have e' : ¬ k = k' := fun q => e q.symm
      simp [List.find?_append, e']
theorem valueAt_mem {kvs : List (K × Value)} {k : K} (h : k ∈ kvs.map (·.1)) : ∃ v, valueAt kvs k = some v := by
  cases e : valueAt kvs k with
  | some v => exact ⟨v, rfl⟩
  | none =>
    exfalso
    obtain ⟨q, hq, rfl⟩ := List.mem_map.mp h
    unfold valueAt at e
    have := List.find?_eq_none.mp (Option.map_eq_none_iff.mp e) q hq
    simp at this
end
section
variable {prog : Program} {w : World} {A : Around} {E : Value → Shared → Prop} {s : Shared} {env : Env} {h₀ : Heap} {L : Addr} {m : Str → Option Value}
theorem ints_of : ∀ (vs : List Value) (ns : List Int), vs.length = ns.length → (∀ (j : Nat) (v : Value), vs[j]? = some v → ∃ k t, v = Value.int k t ∧ ns[j]? = some k) → IntsAre vs ns
  | [], [], _, _ => .nil
  | [], _ :: _, h, _ => by simp at h
  | _ :: _, [], h, _ => by simp at h
  | v :: vs, n :: ns, h, hv => by
    obtain ⟨k, t, e, e2⟩ := hv 0 v rfl
    simp only [List.getElem?_cons_zero, Option.some.injEq] at e2
    subst e2
    subst e
    exact .cons _ _ (ints_of vs ns (by simpa using h) fun j v hj => by simpa using hv (j + 1) v (by simpa using hj))
theorem isInt_of {k : Int} {v : Value} (h : (intKind prog w).is k v = true) : ∃ t, v = Value.int k t := by
  have h' : v.isInt k = true := h
  exact Value.isInt_shape h'
theorem sorted_dict {d : Addr} {o : Obj} {kvs : List (Int × Value)} {news : Led} {Q : Value → Shared → Prop} (hh : A.handled = none) (lo : (d == sysModules) = false) (F : Fr h₀ L s.heap m) (N : News h₀ L s.heap news) (hm : (d, o) ∈ news) (hd : o.IsDictOf (intKind prog w) kvs) (hlen : kvs.length ≤ 60)
    (h : ∀ D c vs' ns' h' tk, Fr h₀ L h' m → News h₀ L h' ((D, listOf vs'.toArray c) :: news) → AllLt D news → IntsAre vs' ns' → ns'.length ≤ 60 → ns'.Perm (kvs.map (·.1)) → ns'.Pairwise (fun x y => x ≤ y) → Q (.ref D) { s with heap := h', toks := tk }) :
    wpAny (model prog w) A (call (.builtin "sorted") [.ref d]) Q E s := by
  obtain ⟨ep, hat⟩ := (kda_dict N hm hd).dictAt
  refine kdu_sorted (kdl_dict (knd := intKind prog w) (kvs := kvs) (ep := ep) lo) hh F N hat (by rw [sizeLine_eq]; omega) fun B h' tk vs F' N' l1 hl hv => ?_
  have hi : IntsAre vs (kvs.map (·.1)) := by
    refine Mine.ints_of vs _ (by rw [hl, List.length_map]) fun j v hj => ?_
    obtain ⟨k, x, hx, hk⟩ := hv j v hj
    obtain ⟨t, rfl⟩ := isInt_of hk
    exact ⟨k, t, rfl, by rw [List.getElem?_map, hx]; rfl⟩
  have off : ∀ p ∈ news, p.1 ≠ B := fun p hp => Nat.ne_of_lt (l1 p hp)
  refine ksk_lsort (vs := vs) (news' := fun o => (B, o) :: news) F' N' (fun o => Upd.head off) (by simp) hi (by rw [List.length_map]; omega) fun vs' ns' c h2 F2 N2 i2 e2 p2 o2 _ => ?_
  exact h B c vs' ns' h2 tk F2 N2 (allLt_of l1) i2 (by rw [e2, List.length_map]; exact hlen) p2 o2
theorem iter_dictS {x : Str} {d : Addr} {o : Obj} {kvs : List (Int × Value)} {m₀ : Str → Option Value} {news : Led} {body : List Stmt} {Q : Flow → Shared → Prop} (stored : List Str) (J : Nat → Led → Prop)
    (hh : A.handled = none) (lo : (d == sysModules) = false) (F : Fr h₀ env.locals s.heap m₀) (N : News h₀ env.locals s.heap news) (hm : (d, o) ∈ news) (hd : o.IsDictOf (intKind prog w) kvs) (hj : J 0 news)
    (hkeep : ∀ i nx, J i nx → (d, o) ∈ nx)
    (turn : ∀ (i : Nat) (k : Int) t (y : Value) (u : Str → Option Value) nx h tk own, kvs[i]? = some (k, y) → OwnOff own (nx.map (·.1)) → J i nx → Fr h₀ env.locals h (fun y => if y = x then some (.int k t) else if stored.contains y then u y else m₀ y) → News h₀ env.locals h (nx ++ own) →
      wpAny (model prog w) A (execs body env) (InvPostG h₀ env.locals (JS stored m₀ J (i + 1)) own { s with heap := h, toks := tk } Q) E { s with heap := h, toks := tk })
    (done : ∀ (u : Str → Option Value) nx h tk, J kvs.length nx → Fr h₀ env.locals h (fun y => if stored.contains y then u y else m₀ y) → News h₀ env.locals h nx → Q .next { s with heap := h, toks := tk }) :
    wpAny (model prog w) A (pyIter (.ref d)) (fun it s₂ => LoopAtV prog w A h₀ env x body Q E it s₂) E s := by
  obtain ⟨ep, hat⟩ := (kda_dict N hm hd).dictAt
  have hod : s.heap.get? d = some o := (N _ hm).1
  have hne : d ≠ s.heap.objs.size := Nat.ne_of_lt hat.lt_size
  refine wpAny_pyIter_dict lo hat ?_
  have W := Walks.dictKeys (prog := prog) (w := w) (knd := intKind prog w) hh s.heap.objs.size d hne kvs ep
  refine ⟨_, _, _, kvs.length, _, _, m₀, news, JS stored m₀ J, rfl, W, ?_, ?_, ?_, ⟨⟨_, Heap.get?_push_size _ rfl, rfl, rfl⟩, hat.push _⟩, F.push _, (fun p hp => ⟨Heap.get?_push_of_some _ (N p hp).1, (N p hp).2⟩), ⟨hj, fun _ _ => rfl⟩, ?_, ?_⟩
  · intro hm'
    rcases List.mem_cons.mp hm' with e | hm'
    · exact absurd F.ns.lt (e ▸ Nat.lt_irrefl _)
    · exact (N _ hm).2.1 ((List.mem_singleton.mp hm').symm)
  · intro b hb
    rw [List.mem_singleton.mp hb]
    exact next_is_new F
  · intro p hp hI
    exact absurd (Heap.lt_size (N p hp).1) ((List.mem_singleton.mp hI) ▸ Nat.lt_irrefl _)
  · rintro i v m₁ news₁ s₁ own ⟨hh', tk', rfl⟩ hin hP hJ hoff hown hget hfp hst F₁ N₁
    have hl₁ := hkeep i news₁ hJ.1
    obtain ⟨k, y, hk, hkv⟩ := hP
    obtain ⟨t, rfl⟩ := isInt_of hkv
    have hI0 : h₀.get? s.heap.objs.size = none := next_is_new F
    obtain ⟨⟨oI, hoI, _⟩, _⟩ := id hst
    have hIown : (s.heap.objs.size, oI) ∈ own.filter fun p => decide (p.1 = s.heap.objs.size) := List.mem_filter.mpr ⟨hfp _ (List.mem_cons.mpr (.inl rfl)) hI0 _ hoI, by simp⟩
    have hsep : OwnOff (own.filter fun p => decide (p.1 = s.heap.objs.size)) (news₁.map (·.1)) := by
      intro p hp b hb e
      obtain ⟨q, hq, rfl⟩ := List.mem_map.mp hb
      have h1 : p.1 = s.heap.objs.size := by simpa using (List.mem_filter.mp hp).2
      exact hoff q hq (List.mem_singleton.mpr (e ▸ h1))
    have N₂ : News h₀ env.locals hh' (news₁ ++ own.filter fun p => decide (p.1 = s.heap.objs.size)) := fun p hp => N₁ p ((List.mem_append.mp hp).elim (fun h => List.mem_append.mpr (.inr h)) fun h => List.mem_append.mpr (.inl ((List.mem_filter.mp h).1)))
    have hlo : hh'.get? d = some o := (N₁ _ (List.mem_append.mpr (.inr hl₁))).1
    have eqF : (fun y => if y = x then some (Value.int k t) else if stored.contains y then m₁ y else m₀ y) = fun y => if y = x then some (Value.int k t) else m₁ y := by
      funext z
      by_cases q : z = x
      · simp [q]
      · simp only [if_neg q]
        cases c : stored.contains z with
        | true => simp
        | false => simp only [Bool.false_eq_true, if_false]; exact (hJ.2 z c).symm
    refine wpAny_mono (turn i k t y m₁ news₁ hh' tk' _ hk hsep hJ.1 (by rw [eqF]; exact F₁) N₂) (fun f s₂ p => ?_) fun _ _ e => e
    have fin : InvEndG h₀ env.locals (JS stored m₀ J (i + 1)) (own.filter fun p => decide (p.1 = s.heap.objs.size)) { s with heap := hh', toks := tk' } s₂ →
        LoopStepU h₀ env.locals [s.heap.objs.size] own (JS stored m₀ J (i + 1)) { s with heap := hh', toks := tk' } .next s₂ := by
      rintro ⟨h', tk, m', news', nx, e, F', N', hn, ho, ha, hm⟩
      refine ⟨rfl, h', tk, m', nx, e, F', fun p hp => ?_, fun p hp hq => ?_, hm⟩
      · rcases List.mem_append.mp hp with h | h
        · by_cases hI : p.1 = s.heap.objs.size
          · exact N' p (ho p (List.mem_filter.mpr ⟨h, by simpa using hI⟩))
          · have h1 : p.1 = d := by
              rcases List.mem_cons.mp (hown p h) with h2 | h2
              · exact absurd h2 hI
              · exact List.mem_singleton.mp h2
            have h2 : hh'.get? p.1 = some p.2 := hget p h
            rw [h1, hlo] at h2
            have h3 : p = (d, o) := Prod.ext h1 (Option.some.inj h2).symm
            rw [h3]
            exact N' _ (hn _ (hkeep _ _ hm.1))
        · exact N' p (hn p h)
      · exact ha _ hIown p.1 (List.mem_map.mpr ⟨p, hp, rfl⟩) (List.mem_singleton.mp hq).symm
    cases f with
    | ret v => exact .ret p
    | brk => exact .brk p
    | next => exact .next (fin p)
    | cont => exact .cont (fin p)
  · rintro h' tk m' news' F' N' _ hJ
    exact done m' news' h' tk hJ.1 (js_fr hJ.2 F') N'
end
end
section
open PySem PySem.W PyProof.Rows PySem.Calls PyProof.V
section
variable {prog : Program} {w : World} {A : Around} {E : Value → Shared → Prop} {s : Shared} {h₀ : Heap} {L : Addr} {m : Str → Option Value} {news news' : Led} {c D : Addr} {vs : List Value} {n : Nat}
theorem list_at {value slice : PySem.Expr} {k : Int} {u : Tok} {v : Value} {Q : Value → Shared → Prop} (N : News h₀ L s.heap news) (hm : (c, listOf vs.toArray n) ∈ news) (h0 : 0 ≤ k) (h1 : k < 2 ^ 62) (e : vs[k.toNat]? = some v) (h : Q v s)
    (hs : subscripted slice false (.ref c) (.int k u) = operate [.ref c, .int k u] (getItem (.ref c) (.int k u)) := by with_unfolding_all rfl) (hg : ∀ r, letTemporaryGo value (.ref c) r = pure () := by intro _; with_unfolding_all rfl) :
    wpAny (model prog w) A (subscriptTail value slice (.ref c) (.int k u)) Q E s := item_listL (isListM N hm) h0 (by omega) e h hs hg
theorem setL_of : ∀ {l : List Value} {k : Nat} {v : Value}, k < l.length → ki_setL l k v = some (l.set k v)
  | [], _, _, h => by simp at h
  | _ :: _, 0, _, _ => rfl
  | x :: r, k + 1, v, h => by
    unfold ki_setL
    rw [setL_of (l := r) (by simpa using h)]
    rfl
theorem list_set {k : Int} {t : Tok} {v : Value} {Q : Unit → Shared → Prop} (F : Fr h₀ L s.heap m) (N : News h₀ L s.heap news) (U : Upd D (listOf vs.toArray n) (listOf (vs.set k.toNat v).toArray n) news news') (h0 : 0 ≤ k) (h1 : k < 2 ^ 62) (h2 : k.toNat < vs.length)
    (h : ∀ h', Fr h₀ L h' m → News h₀ L h' news' → Q () { s with heap := h' }) : wpAny (model prog w) A (setItem (.ref D) (.int k t) v) Q E s := by
  refine ki_set (its := vs.toArray) (q := vs.set k.toNat v) F N h0 (by omega) ?_ U h
  have e : vs.toArray.toList = vs := by simp
  rw [e]
  exact Mine.setL_of h2
end
section
variable {prog : Program} {w : World} {A : Around} {E : Value → Shared → Prop} {s : Shared} {env : Env} {h₀ : Heap} {body : List Stmt} {Q : Flow → Shared → Prop}
abbrev JH (stored : List Str) (hn : Str) (hvf : Nat → Value) (m₀ : Str → Option Value) (J : Nat → Led → Prop) (i : Nat) (m : Str → Option Value) (nx : Led) : Prop := J i nx ∧ m hn = some (hvf i) ∧ ∀ z, z ≠ hn → stored.contains z = false → m z = m₀ z
theorem iter_rangeH {x : Str} {r : Addr} {b₀ : Int} {t₀ u₀ v₀ : Tok} {n : Nat} {m₀ : Str → Option Value} {news : Led} (stored : List Str) (hn : Str) (hvf : Nat → Value) (J : Nat → Led → Prop)
    (hh : A.handled = none) (hr : IsRange s.heap r 0 b₀ 1 t₀ u₀ v₀) (hsmall : Builtin.Range.small 0 b₀ 1 = true) (hnn : Builtin.Range.rangeSize 0 b₀ 1 = (n : Int)) (F : Fr h₀ env.locals s.heap m₀) (N : News h₀ env.locals s.heap news) (hj : J 0 news) (hm0 : m₀ hn = some (hvf 0))
    (turn : ∀ (i : Nat) t (u : Str → Option Value) nx h tk own, i < n → OwnOff own (nx.map (·.1)) → J i nx → Fr h₀ env.locals h (fun y => if y = x then some (.int i t) else if y = hn then some (hvf i) else if stored.contains y then u y else m₀ y) → News h₀ env.locals h (nx ++ own) →
      wpAny (model prog w) A (execs body env) (InvPostG h₀ env.locals (JH stored hn hvf m₀ J (i + 1)) own { s with heap := h, toks := tk } Q) E { s with heap := h, toks := tk })
    (done : ∀ (u : Str → Option Value) nx h tk, J n nx → Fr h₀ env.locals h (fun y => if y = hn then some (hvf n) else if stored.contains y then u y else m₀ y) → News h₀ env.locals h nx → Q .next { s with heap := h, toks := tk }) :
    wpAny (model prog w) A (pyIter (.ref r)) (fun it s₂ => LoopAtV prog w A h₀ env x body Q E it s₂) E s := by
  have key : ∀ (i : Nat) (m₁ : Str → Option Value), (m₁ hn = some (hvf i) ∧ ∀ z, z ≠ hn → stored.contains z = false → m₁ z = m₀ z) → (fun y => if y = hn then some (hvf i) else if stored.contains y then m₁ y else m₀ y) = m₁ := by
    intro i m₁ h
    funext y
    by_cases q : y = hn
    · simp [q, h.1]
    · simp only [if_neg q]
      cases c : stored.contains y with
      | true => simp
      | false => simp only [Bool.false_eq_true, if_false]; exact (h.2 y q c).symm
  refine wpAny_pyIter_range hr hsmall ?_
  have W : Walks prog w A s.heap.objs.size [s.heap.objs.size] [s.heap.objs.size] n (fun i v => i < n ∧ ∃ t, v = .int (0 + i * 1) t)
      (fun i h => IsRangeIter h s.heap.objs.size (0 + (i : Nat) * 1) ((n : Int) - (i : Nat)) 1) := (Walks.range hh _ 0 1 n).bound
  refine kdr_loop (JH stored hn hvf m₀ J) W (fun _ h => h) (fun _ h => h) ?_ ?_ ?_ ?_ (by show IsRangeIter _ _ _ _ _; rw [hnn]; simpa using Heap.get?_push_size _ rfl) (F.push _) (fun p hp => ⟨Heap.get?_push_of_some _ (N p hp).1, (N p hp).2⟩) ⟨hj, hm0, fun _ _ _ => rfl⟩ ?_ ?_
  · intro i h st b hb
    rw [List.mem_singleton.mp hb]
    obtain ⟨o, ho⟩ : ∃ o, h.get? s.heap.objs.size = some o := ⟨_, st⟩
    exact ⟨o, ho⟩
  · intro hm
    exact absurd F.ns.lt ((List.mem_singleton.mp hm) ▸ Nat.lt_irrefl _)
  · intro b hb
    rw [List.mem_singleton.mp hb]
    exact next_is_new F
  · intro p hp hI
    exact absurd (Heap.lt_size (N p hp).1) ((List.mem_singleton.mp hI) ▸ Nat.lt_irrefl _)
  · rintro i v m₁ nx h tk own hi ⟨_, t, rfl⟩ ho hJ F₁ N₁
    refine turn i t m₁ nx h tk own hi ho hJ.1 ?_ N₁
    have e : (fun y => if y = x then some (Value.int i t) else if y = hn then some (hvf i) else if stored.contains y then m₁ y else m₀ y) = fun y => if y = x then some (Value.int (0 + i * 1) t) else m₁ y := by
      funext y
      have := congrFun (key i m₁ hJ.2) y
      by_cases q : y = x
      · simp [q]
      · simp only [if_neg q]; exact this
    rw [e]; exact F₁
  · intro m₁ nx h tk hJ F₁ N₁
    exact done m₁ nx h tk hJ.1 (by rw [key n m₁ hJ.2]; exact F₁) N₁
end
end
section
open PySem PySem.W PyProof.Rows PySem.Calls PyProof.V
theorem tup_lookup_rev : typeLookup (.type "tuple") "__reversed__" = pure none := by rw [typeLookup_type, builtinLookup_eq_fast]; kernel_rfl
theorem tup_lookup_get : typeLookup (.type "tuple") "__getitem__" = pure (some (.builtin "tuple.__getitem__")) := by rw [typeLookup_type, builtinLookup_eq_fast]; kernel_rfl
theorem tup_not_dict : isSubtype (.type "tuple") (.type "dict") = pure false := by rw [isSubtype_type]; kernel_rfl
theorem owner_rev : Manifest.owners.lookup (String.ofList ['d', 'e', 's', 'r', 'e', 'v', 'e', 'r'].reverse) = some Manifest.sig_reversed := by kernel_rfl
theorem slot_rev_next : Slot "reversed" "__next__" "reversed.__next__" :=
  .of (owner := "reversed") (n := "__next__") (by rw [typeLookup_type, builtinLookup_eq_fast]; kernel_rfl) (by decide +kernel) (by decide +kernel) (by decide +kernel)
    (by first | exact .inl (by decide +kernel) | exact .inr (by decide +kernel)) (by rw [isSubtype_type]; kernel_rfl)
theorem entry_rev_next : entryFor table "reversed.__next__" = some Builtin.«reversed.__next__» := entryFor_of_tree (by kernel_rfl)
theorem args_rev_next_1 (a : Value) : argsOk "reversed.__next__" ⟨[a], []⟩ := by
  unfold argsOk; rw [signature?_of (id := "reversed.__next__") (n := ['_', '_', 't', 'x', 'e', 'n', '_', '_']) (o := ['d', 'e', 's', 'r', 'e', 'v', 'e', 'r']) (by kernel_rfl) owner_rev]; kernel_rfl
theorem slot_rev_iter : Slot "reversed" "__iter__" "reversed.__iter__" :=
  .of (owner := "reversed") (n := "__iter__") (by rw [typeLookup_type, builtinLookup_eq_fast]; kernel_rfl) (by decide +kernel) (by decide +kernel) (by decide +kernel)
    (by first | exact .inl (by decide +kernel) | exact .inr (by decide +kernel)) (by rw [isSubtype_type]; kernel_rfl)
theorem args_rev_iter_1 (a : Value) : argsOk "reversed.__iter__" ⟨[a], []⟩ := by
  unfold argsOk; rw [signature?_of (id := "reversed.__iter__") (n := ['_', '_', 'r', 'e', 't', 'i', '_', '_']) (o := ['d', 'e', 's', 'r', 'e', 'v', 'e', 'r']) (by kernel_rfl) owner_rev]; kernel_rfl
theorem entry_rev_iter : entryFor table "reversed.__iter__" = some Builtin.«dict_keyiterator.__iter__» :=
  entryFor_alias (id' := "dict_keyiterator.__iter__") (by kernel_rfl) (by first | rfl | decide +kernel | (unfold String.splitOn; simp +decide [String.splitOnAux])) (by decide +kernel) (by kernel_rfl)
theorem sub_rev : isSubtype (.type "reversed") (.type "reversed") = pure true := by rw [isSubtype_type]; kernel_rfl
abbrev revO (l : Addr) (i : Int) : Obj := { cls := .type "reversed", data := .fields #[.ref l, rawInt i] }
section
variable {prog : Program} {w : World} {A : Around} {E : Value → Shared → Prop} {s : Shared}
theorem code_rev_new {l : Addr} {items : Array Value} {Q₁ : Value → Shared → Prop} (hl : IsTup s.heap l items) (hf : (items.size : Int) < 2 ^ 62)
    (h : ∀ tk, Q₁ (.ref s.heap.objs.size) { s with heap := s.heap.push (revO l ((items.size : Int) - 1)), toks := tk }) :
    codeAny (model prog w) A (.call (.builtin "reversed.__new__") ⟨[.type "reversed", .ref l], []⟩) (wants Q₁ E) s := by
  refine codeAny_of_tree ?_
  show wpAny _ A.in1 (do checkBuiltinCall "reversed.__new__" ⟨[.type "reversed", .ref l], []⟩; again (.builtin "reversed.__new__" ⟨[.type "reversed", .ref l], []⟩)) _ _ s
  refine wpAny_bind (wpAny_of_eq (F.newCall_reversed_1 _) (wpAny_pure ⟨plainId_quiet F.plain_reversed_new _, codeAny_builtin F.entry_reversed_new ?_⟩))
  rw [Around.under_plainId F.plain_reversed_new _]
  unfold Builtin.«reversed.__new__»
  refine wpAny_bind (wpAny_of_eq (newClass_reversed _) ?_)
  try dsimp only
  refine wpAny_bind (wpAny_of_eq (a := ()) (by first | rfl | kernel_rfl) ?_)
  refine wpAny_bind (wpAny_of_eq (a := ()) (by first | rfl | kernel_rfl) ?_)
  try dsimp only
  refine wpAny_bind (wpAny_specialOf hl.typeIs tup_lookup_rev ?_)
  try dsimp only
  refine wpAny_bind ?_
  with_unfolding_all refine wpAny_bind (m := isInstance (Value.ref l) (.type "dict")) ?_
  refine wpAny_isInstance hl.typeIs tup_not_dict ?_
  show wpAny _ _ (specialOf (Value.ref l) "__getitem__" >>= _) _ _ _
  refine wpAny_bind (wpAny_specialOf hl.typeIs tup_lookup_get ?_)
  refine wpAny_of_eq (a := true) (by first | rfl | kernel_rfl | decide) ?_
  show wpAny _ _ (call (Value.builtin "len") [Value.ref l] >>= _) _ _ _
  refine wpAny_bind (len_tuple hl (by omega) ?_)
  show wpAny _ _ (Builtin.SmallTypes.newRecord (Value.type "reversed") [Value.ref l, rawInt ((items.size : Int) - 1)] >>= _) _ _ _
  refine wpAny_bind ?_
  show wpAny _ _ (newObj (Value.type "reversed") (.fields #[Value.ref l, rawInt ((items.size : Int) - 1)])) _ _ _
  exact wpAny_newObj_type (wpAny_pure (h _)) (by size_fits)
theorem called_rev : TypeCalled "reversed" "reversed.__new__" "object.__init__" :=
  ⟨by decide +kernel, F.create_reversed, ⟨_, _, F.mro_reversed⟩, F.made_reversed, F.plain_reversed_new, sub_rev,
   .of (owner := "object") (n := "__init__") (by rw [typeLookup_type, builtinLookup_eq_fast]; kernel_rfl) (by decide +kernel) (by decide +kernel) (by decide +kernel)
    (by first | exact .inl (by decide +kernel) | exact .inr (by decide +kernel)) (by rw [isSubtype_type]; kernel_rfl)⟩
theorem call_rev_tuple {l : Addr} {items : Array Value} {Q : Value → Shared → Prop} (hl : IsTup s.heap l items) (hf : (items.size : Int) < 2 ^ 62)
    (h : ∀ tk, Q (.ref s.heap.objs.size) { s with heap := s.heap.push (revO l ((items.size : Int) - 1)), toks := tk }) : wpAny (model prog w) A (call (.type "reversed") [.ref l]) Q E s := by
  refine callType_codes (Q₁ := fun obj s₁ => obj = .ref s.heap.objs.size ∧ ∃ tk, s₁ = { s with heap := s.heap.push (revO l ((items.size : Int) - 1)), toks := tk }) called_rev (F.typeCall_reversed_1 _) F.entry_object_init (code_rev_new hl hf fun tk => ⟨rfl, tk, rfl⟩) ?_
  rintro obj s₁ ⟨rfl, tk, rfl⟩
  have hT : ({ s with heap := s.heap.push (revO l ((items.size : Int) - 1)), toks := tk } : Shared).TypeIs (.ref s.heap.objs.size) "reversed" := ⟨_, Heap.get?_push_size _ rfl, rfl⟩
  exact ⟨hT, F.args_object_init_2 _ _, object_init_meets called_rev.init.lookup called_rev.made (by decide) prog w A.in1 _ _ ⟨hT, rfl, h tk⟩⟩
end
def IsRevT (h : Heap) (a l : Addr) (i : Int) : Prop := ∃ o, h.get? a = some o ∧ o.cls = .type "reversed" ∧ o.data = .fields #[.ref l, rawInt i]
section
variable {prog : Program} {w : World} {A : Around} {E : Value → Shared → Prop} {s : Shared}
theorem IsRevT.typeIs {a l : Addr} {i : Int} (x : IsRevT s.heap a l i) : s.TypeIs (.ref a) "reversed" := let ⟨o, ho, hc, _⟩ := x; ⟨o, ho, hc⟩
theorem rev_end {it l : Addr} {Q : Option Value → Shared → Prop} (hh : A.handled = none) (hit : IsRevT s.heap it l (-1))
    (hQ : ∀ h' tk, (∀ b o, b ≠ it → s.heap.get? b = some o → h'.get? b = some o) → Q none { s with heap := h', toks := tk }) : wpAny (model prog w) A (pyNext (.ref it)) Q E s := by
  obtain ⟨o, ho, hc, hd⟩ := id hit
  unfold pyNext
  refine wpAny_bind (wpAny_attempt (wpAny_callSpecial?_slot (name := Str.ofString "__next__") hit.typeIs slot_rev_next
    (wpAny_call_entry slot_rev_next hit.typeIs entry_rev_next ?_ (args_rev_next_1 _))))
  unfold Builtin.«reversed.__next__»
  refine wpAny_bind (wpAny_of_eq (a := (Value.ref it, [])) rfl ?_)
  try dsimp only
  refine wpAny_bind (wpAny_field ho hd (x := .ref l) rfl ?_)
  refine wpAny_bind (wpAny_field ho hd (x := rawInt (-1)) rfl ?_)
  show wpAny _ _ (if (-1 : Int) < 0 then _ else _) _ _ s
  rw [if_pos (by decide)]
  refine wpAny_bind (wpAny_rule ?_)
  refine wpAny_bind ?_
  with_unfolding_all refine wpAny_bind (m := setField (Value.ref it) 1 (rawInt (-1))) (wpAny_setField ho hd (by simp) ?_)
  have ho2 := Heap.get?_update_self (fun o => Obj.mapFields (fun vs => vs.setIfInBounds 1 (rawInt (-1))) o) ho (Obj.isFreed_of_fields (Obj.data_mapFields hd _))
  have hd2 := Obj.data_mapFields hd (fun vs => vs.setIfInBounds 1 (rawInt (-1)))
  refine wpAny_setField ho2 hd2 (by simp) ?_
  first
  | show wpAny _ _ (newExc (.type "StopIteration") [] >>= _) _ _ _
  | (refine wpAny_bind ?_; show wpAny _ _ (newExc (.type "StopIteration") [] >>= _) _ _ _)
  refine wpAny_bind ?_
  simp only [newExc, newTuple]
  refine wpAny_bind (wpAny_newObj_type ?_ (by size_fits))
  refine wpAny_bind (m := firstArgMember _ _) (wpAny_of_eq (a := Value.none) (by first | rfl | (simp only [firstArgMember]; rfl)) ?_)
  refine wpAny_newObj_type ?_ (by size_fits)
  simp only [raiseNew]
  refine wpAny_bind (wpAny_handled ?_)
  first | rw [show A.in1.handled = none from hh] | rw [hh]
  refine wpAny_bind (wpAny_pure (wpAny_throw ?_))
  refine wpAny_bind (wpAny_isInstance (T := "StopIteration") (b := true) ⟨_, Heap.get?_push_size _ rfl, rfl⟩ isSubtype_stop ?_)
  refine wpAny_pure (hQ _ _ fun b o' hb e => ?_)
  refine Heap.get?_push_of_some _ (Heap.get?_push_of_some _ ?_)
  exact (Heap.get?_update_ne _ _ _ _ hb).trans ((Heap.get?_update_ne _ _ _ _ hb).trans e)
theorem rev_iter {it l : Addr} {i : Int} {Q : Value → Shared → Prop} (hit : IsRevT s.heap it l i) (h : Q (.ref it) s) : wpAny (model prog w) A (pyIter (.ref it)) Q E s := by
  refine wpAny_pyIter_slot hit.typeIs slot_rev_iter (wpAny_call_entry slot_rev_iter hit.typeIs entry_rev_iter ?_ (args_rev_iter_1 _))
  show wpAny _ _ (ret (.ref it)) _ _ s
  exact wpAny_pure ⟨_, rfl, "reversed", _, hit.typeIs, slot_rev_next.lookup, h⟩
theorem rev_walks (hh : A.handled = none) (I l : Addr) : Walks prog w A I [I] [I] 0 (fun _ _ => False) (fun _ h => IsRevT h I l (-1)) where
  sub := fun b hb => hb
  frame := fun _ _ _ x hk => let ⟨o, ho, r⟩ := x; ⟨o, hk I (by simp) o ho, r⟩
  item := fun i s Q E hi => absurd hi (Nat.not_lt_zero _)
  done := fun s Q E x hQ => rev_end hh x fun h' tk hk => hQ h' tk fun b o hb e => hk b o (fun q => hb (by simp [q])) e
  self := fun _ _ _ _ x hQ => rev_iter x hQ
theorem rev_nil {h₀ : Heap} {L l : Addr} {m : Str → Option Value} {news : Led} {n : Nat} {Q : Value → Shared → Prop} (F : Fr h₀ L s.heap m) (N : News h₀ L s.heap news) (hm : (l, tupOf [] n) ∈ news)
    (h : ∀ D h' tk, Fr h₀ L h' m → News h₀ L h' ((D, revO l (-1)) :: news) → (∀ p ∈ news, p.1 < D) → Q (.ref D) { s with heap := h', toks := tk }) : wpAny (model prog w) A (call (.type "reversed") [.ref l]) Q E s :=
  call_rev_tuple (items := #[]) ⟨_, (N _ hm).1, rfl, n, rfl⟩ (by decide) fun tk => h _ _ tk (F.push _) (News.push F N _) fun p hp => Heap.lt_size (N p hp).1
theorem rev_for {env : Env} {x : Str} {body : List Stmt} {h₀ : Heap} {D l : Addr} {m : Str → Option Value} {news : Led} {Q : Flow → Shared → Prop} (hh : A.handled = none) (F : Fr h₀ env.locals s.heap m) (N : News h₀ env.locals s.heap ((D, revO l (-1)) :: news)) (hoff : ∀ p ∈ news, p.1 ≠ D)
    (h : ∀ h' tk, Fr h₀ env.locals h' m → News h₀ env.locals h' news → Q .next { s with heap := h', toks := tk }) :
    wpAny (model prog w) A (pyIter (.ref D)) (fun it s₂ => LoopAtV prog w A h₀ env x body Q E it s₂) E s := by
  have hD := N _ (List.Mem.head _)
  have hit : IsRevT s.heap D l (-1) := ⟨_, hD.1, rfl, rfl⟩
  refine rev_iter hit ?_
  refine ⟨D, _, _, 0, _, _, m, news, fun _ m' n' => m' = m ∧ n' = news, rfl, rev_walks hh D l, ?_, ?_, ?_, hit, F, fun p hp => N p (.tail _ hp), ⟨rfl, rfl⟩, ?_, ?_⟩
  · intro q
    exact hD.2.1 (List.mem_singleton.mp q).symm
  · intro b hb
    rw [List.mem_singleton.mp hb]; exact hD.2.2
  · intro p hp q
    exact hoff p hp (List.mem_singleton.mp q)
  · intro i v m₁ news₁ s₁ own _ hi
    exact absurd hi (Nat.not_lt_zero _)
  · rintro h' tk m' news' F' N' _ ⟨rfl, rfl⟩
    exact h h' tk F' N'
end
end
section
open PySem PySem.W PyProof.Rows PySem.Calls PyProof.V
theorem freshReads : True := by
  w_top off
  trivial
theorem reads_fin {k : Int} {t : Tok} {news full : Led} {D : Addr} {c : Nat} {h₀ h' : Heap} {L : Addr} {m : Str → Option Value} {s : Shared} {Q : Value → Shared → Prop} {tk : Nat}
    (hret : ∀ r news' h' tk', Fr h₀ L h' m → News h₀ L h' news' → (∃ l t n', r = Value.ref l ∧ news' = (l, listOf [Value.int k t].toArray n') :: news ∧ AllLt l news) → Q r { s with heap := h', toks := tk' })
    (F : Fr h₀ L h' m) (N : News h₀ L h' full) (sub : ∀ p ∈ (D, listOf [Value.int k t].toArray c) :: news, p ∈ full) (hl : AllLt D news) : Q (.ref D) { s with heap := h', toks := tk } :=
  hret _ _ _ _ F (cb_drop N sub) ⟨D, t, c, rfl, rfl, hl⟩
theorem ints_one {v : List Value} {n : List Int} {k : Int} (hi : IntsAre v n) (hp : n.Perm [k]) : ∃ t, v = [.int k t] := by
  have e := List.perm_singleton.mp hp
  subst e
  have hl := hi.length
  obtain ⟨t, q⟩ := hi.get 0 k rfl
  match v, hl, q with
  | [a], _, q => exact ⟨t, by simpa using q⟩
set_option maxRecDepth 100000 in
set_option maxHeartbeats 8000000 in
theorem reads_c (w : World) (news : Led) (e : Addr) (i k : Int) (t1 t2 t3 : Tok) (n : Nat) (he : (e, tupOf [.str "sig" t1, .int i t2, .int k t3] n) ∈ news) (a0 : 0 ≤ k) (a1 : k < 9) :
    Ctr w 56 [.ref e] 4 128 news (fun r news' => ∃ l t n', r = .ref l ∧ news' = (l, listOf [.int k t].toArray n') :: news ∧ AllLt l news) := by
    intro p loose mean mg mb dp un gd cn cs a ccd cl outer A₀ base h₀ L m s Q E B F X N T hk hd hu hret
    have hM := kdMark
    refine wpAny_call ?_
    k_dflt ktr_enter
    repeat' (first | (k_unfold; (try dsimp only)) | (k_end; wrow_close) | (((with_reducible show wpAny _ _ (pyIter (Value.ref _)) (fun it s₂ => LoopAtV _ _ _ _ _ _ _ _ _ it s₂) _ _); (rename Fr _ _ _ _ => lF'); (rename News _ _ _ _ => lN'); k_dflt (with_unfolding_all refine' rev_for (by rfl) lF' lN' ?zzo ?_; (case zzo => k_all); intro h' tk' F' N'; (try clear lF' lN'); (try dsimp only); (try k_fold); (try k_sweep)); walk_say "REVERSED ()")) | (((with_reducible show wpAny _ _ (call (Value.type _) [Value.ref _]) _ _ _); k_dflt (refine' rev_nil (n := 0) ?zzF ?zzN ?zzl ?_; (case zzF => k_asm); (case zzN => k_asm); (case zzl => k_mem); intro D' h' tk' F' N' l1; (try k_lt l1); (try dsimp only); (try k_fold); (try k_sweep)))) | ((with_reducible show UnrEnd _ _ _ _ _ _ _); ((rename News _ _ _ _ => lN'); first | (refine' unrEnd_rem (by assumption) lN' ?zzhr ?zzho ?_; (case zzhr => (repeat (first | exact Rem.head | refine Rem.tail ?_))); (case zzho => k_all); (try dsimp only); (first | (refine' And.intro ?zzhq ?_; (case zzhq => k_dflt k_mem)) | skip); (try clear lN'); walk_say "TURN ENDS"))) | (((with_reducible show wpAny _ _ (pyIter (Value.ref _)) (fun it s₂ => LoopAtV _ _ _ _ _ _ _ _ _ it s₂) _ _); (rename Fr _ _ _ _ => lF'); (rename News _ _ _ _ => lN'); (with_unfolding_all refine' iter_listUnr (by rfl) lF' lN' ?zzhm ?zzhc ?zzhd ?_; (case zzhm => k_mem); (case zzhc => rfl); (case zzhd => rfl); k_whole; intro i' l1; (try k_lt l1); clear lF' lN'); walk_say "UNROLLED")) | walk1 | (dsimp only; (first | (((with_reducible show wpAny _ _ (pyIter (Value.ref _)) (fun it s₂ => LoopAtV _ _ _ _ _ _ _ _ _ it s₂) _ _); (rename Fr _ _ _ _ => lF'); (rename News _ _ _ _ => lN'); k_dflt (with_unfolding_all refine' rev_for (by rfl) lF' lN' ?zzo ?_; (case zzo => k_all); intro h' tk' F' N'; (try clear lF' lN'); (try dsimp only); (try k_fold); (try k_sweep)); walk_say "REVERSED ()")) | (((with_reducible show wpAny _ _ (call (Value.type _) [Value.ref _]) _ _ _); k_dflt (refine' rev_nil (n := 0) ?zzF ?zzN ?zzl ?_; (case zzF => k_asm); (case zzN => k_asm); (case zzl => k_mem); intro D' h' tk' F' N' l1; (try k_lt l1); (try dsimp only); (try k_fold); (try k_sweep)))) | ((with_reducible show UnrEnd _ _ _ _ _ _ _); ((rename News _ _ _ _ => lN'); first | (refine' unrEnd_rem (by assumption) lN' ?zzhr ?zzho ?_; (case zzhr => (repeat (first | exact Rem.head | refine Rem.tail ?_))); (case zzho => k_all); (try dsimp only); (first | (refine' And.intro ?zzhq ?_; (case zzhq => k_dflt k_mem)) | skip); (try clear lN'); walk_say "TURN ENDS"))) | (((with_reducible show wpAny _ _ (pyIter (Value.ref _)) (fun it s₂ => LoopAtV _ _ _ _ _ _ _ _ _ it s₂) _ _); (rename Fr _ _ _ _ => lF'); (rename News _ _ _ _ => lN'); (with_unfolding_all refine' iter_listUnr (by rfl) lF' lN' ?zzhm ?zzhc ?zzhd ?_; (case zzhm => k_mem); (case zzhc => rfl); (case zzhd => rfl); k_whole; intro i' l1; (try k_lt l1); clear lF' lN'); walk_say "UNROLLED")) | walk1)) | (leave1; walk_say "STEP leave1"; try dsimp only) | fail "no step")
    rename _ ∧ _ ∧ _ ∧ _ ∧ AllLt _ _ => hlt
    rename IntsAre _ _ => hi
    rename List.Perm _ _ => hp
    obtain ⟨t9, e9⟩ := ints_one hi hp
    subst e9
    rename News h₀ L _ _ => hN
    have hl5 := hlt.2.2.2.2
    exact reads_fin hret (by k_asm) hN (fun p hp => by
      rcases List.mem_cons.mp hp with h | h
      · rw [h]; exact List.Mem.head _
      · simp [h]) hl5
end
section
open PySem PySem.W PyProof.Rows PySem.Calls PyProof.V
theorem freshBegin : True := by
  w_top off
  trivial
theorem FoundS.use {w : World} {f hl : Addr} {rest : Led} (H : FoundS w f hl rest) {news : Led} {ho : Obj} {kvs : List (Int × Value)} {th : Value} {e : Addr} {a b : Value} {k : Int} {t n : Nat} {v : Value} (q1 : ∀ p ∈ rest, p ∈ news) (q2 : (hl, ho) ∈ news) (q3 : ho.IsDictOf (intKind prg w) kvs)
    (q4 : (e, tupOf [a, b, .int k t] n) ∈ news) (q5 : valueAt kvs k = some v) : Ctr w f [th, .ref e] 1 64 news (fun r news' => news' = news ∧ r = v) := H news ho kvs th e a b k t n v q1 q2 q3 q4 q5
theorem assign2 {prog : Program} {w : World} {A : Around} {E : Value → Shared → Prop} {s : Shared} {h₀ : Heap} {env : Env} {a b : Str} {pa pb tp : Pos} {kk : Nat} {T : Addr} {x y : Value} {n : Nat} {m : Str → Option Value} {news : Led} {Q : Unit → Shared → Prop} (hh : A.handled = none) (F : Fr h₀ env.locals s.heap m) (N : News h₀ env.locals s.heap news) (ht : (T, tupOf [x, y] n) ∈ news)
    (ha : env.kindOf a = some .local) (hb : env.kindOf b = some .local) (hp : (env.scope.kind == .class || (env.scope.kind == .module && env.locals != env.globals)) = false)
    (h : ∀ (h' : Heap) (tk : Nat), Fr h₀ env.locals h' (fun z => if z = b then some y else if z = a then some x else m z) → News h₀ env.locals h' news → Q () { s with heap := h', toks := tk }) :
    wpAny (model prog w) A (assign (.Tuple [.Name a pa, .Name b pb] kk tp) env (.ref T)) Q E s := by
  refine kcp_assign hh ⟨_, (N _ ht).1, rfl, n, rfl⟩ ha hb hp F.ns fun h' tk hn hk => h h' tk ⟨hn, fun c o e => ?_, F.above⟩ fun p hp => ⟨hk _ _ (N p hp).2.1 (N p hp).1, (N p hp).2⟩
  exact hk c o (Nat.ne_of_lt (Nat.lt_of_lt_of_le (Heap.lt_size e) F.above)) (F.keep c o e)
def BegJ (w : World) (kvs : List (Int × Value)) (evs : List Ev) (kd la sl dt : Addr) (es : List DictEntry) (n nT : Nat) (rest : Led) (i : Nat) (nx : Led) : Prop :=
  ∃ ko kvk n2, nx = (kd, ko) :: (la, listOf ((evs.take i).map (lastV kvs)).toArray n2) :: (sl, listOf [].toArray n) :: (dt, dictOf es nT) :: rest ∧ ko.IsDictOf (intKind prg w) kvk ∧ kvk.length ≤ i ∧ (∀ k, k ∈ kvk.map (·.1) ↔ ∃ e ∈ evs.take i, e.key = k)
theorem beg_off {kd la sl dt : Addr} {rest own : Led} (off : OwnOff rest [sl, dt]) (l1 : @LT.lt Nat _ la kd ∧ @LT.lt Nat _ sl kd ∧ @LT.lt Nat _ dt kd ∧ AllLt kd rest) (l2 : @LT.lt Nat _ sl la ∧ @LT.lt Nat _ dt la ∧ AllLt la rest) {o1 o2 o3 o4 : Obj} (ho : OwnOff own (((kd, o1) :: (la, o2) :: (sl, o3) :: (dt, o4) :: rest).map (·.1))) : OwnOff (rest ++ own) [kd, la, sl, dt] := by
  intro p hp b hb
  rcases List.mem_append.mp hp with h | h
  · have a1 := tb_ltOf l1.2.2.2 p h
    have a2 := tb_ltOf l2.2.2 p h
    have a3 := off p h sl (by simp)
    have a4 := off p h dt (by simp)
    simp only [List.mem_cons, List.mem_nil_iff, or_false] at hb
    rcases hb with rfl | rfl | rfl | rfl
    · exact Nat.ne_of_lt a1
    · exact Nat.ne_of_lt a2
    · exact a3
    · exact a4
  · refine ho p h b ?_
    simp only [List.map_cons, List.mem_cons]
    simp only [List.mem_cons, List.mem_nil_iff, or_false] at hb
    rcases hb with h | h | h | h <;> simp [h]
theorem beg_fin {w : World} {kvs kvk : List (Int × Value)} {evs : List Ev} {kd la sl dt : Addr} {es : List DictEntry} {n nT n3 i : Nat} {rest own r2 full : Led} {e : Ev} {ko ko' o2 o3 o4 : Obj} {tr v : Value} {m₀ m' : Str → Option Value} {g h' : Heap} {L : Addr} {s : Shared} {tk : Nat}
    (F : Fr g L h' m') (N : News g L h' full) (hm : ∀ z : Str, (["edge", "e", "key"] : List Str).contains z = false → m' z = m₀ z) (hko : ko'.IsDictOf (intKind prg w) (stored kvk e.key tr)) (hkl : kvk.length ≤ i) (hkm : ∀ k, k ∈ kvk.map (·.1) ↔ ∃ e ∈ evs.take i, e.key = k)
    (htk : evs.take (i + 1) = evs.take i ++ [e]) (hown : OwnOff own (((kd, ko) :: (la, o2) :: (sl, o3) :: (dt, o4) :: rest).map (·.1))) (hr2 : r2 = rest ++ own) (hv : v = lastV kvs e)
    (sub : ∀ p ∈ (kd, ko') :: (la, listOf (((evs.take i).map (lastV kvs)).toArray.push v) n3) :: (sl, listOf [].toArray n) :: (dt, dictOf es nT) :: r2, p ∈ full) :
    InvEndG g L (JS ["edge", "e", "key"] m₀ (BegJ w kvs evs kd la sl dt es n nT rest) (i + 1)) own s { s with heap := h', toks := tk } := by
  subst hv
  subst hr2
  rw [List.push_toArray] at sub
  have e1 : ((evs.take i).map (lastV kvs)) ++ [lastV kvs e] = (evs.take (i + 1)).map (lastV kvs) := by rw [htk]; simp
  rw [e1] at sub
  refine InvEndG.intro F N ⟨⟨ko', _, n3, rfl, hko, Nat.le_trans (stored_length_le _ _ _) (by omega), fun k => ?_⟩, hm⟩ ?_ ?_ ?_
  · rw [stored_mem, hkm, htk]
    simp only [List.mem_append, List.mem_singleton]
    constructor
    · rintro (rfl | ⟨e', h, rfl⟩)
      · exact ⟨e, .inr rfl, rfl⟩
      · exact ⟨e', .inl h, rfl⟩
    · rintro ⟨e', h | rfl, rfl⟩
      · exact .inr ⟨e', h, rfl⟩
      · exact .inl rfl
  · exact hown
  · intro p hp
    refine sub p ?_
    simp only [List.mem_cons, List.mem_append] at hp ⊢
    rcases hp with h | h | h | h | h <;> simp [h]
  · intro p hp
    refine sub p ?_
    simp [hp]
abbrev BeginPost (kvs : List (Int × Value)) (evs : List Ev) (sl dt evl : Addr) (es : List DictEntry) (rest : Led) (r : Value) (news' : Led) : Prop :=
  ∃ nl n1 es' nT' la n2 nw wt tw kl vk nk1 ks vk2 nk2, r = .none ∧ news' = (sl, listOf [Value.ref nl].toArray n1) :: (dt, dictOf es' nT') :: (la, listOf (evs.map (lastV kvs)).toArray n2) :: (nw ++ rest) ∧
    getL "wait" es' = some (some (Value.ref wt)) ∧ es'.length ≤ es.length + 1 ∧ (wt, tupOf [.str "await" tw, .ref kl, .ref evl, .ref la] 0) ∈ nw ∧
    (kl, listOf vk.toArray nk1) ∈ nw ∧ IntsAre vk ks ∧ (nl, listOf vk2.toArray nk2) ∈ nw ∧ IntsAre vk2 ks ∧ KeysOf ks evs ∧
    (∀ p ∈ nw, p.1 ≠ la ∧ p.1 ≠ sl ∧ p.1 ≠ dt) ∧ @Ne Nat la sl ∧ @Ne Nat la dt ∧ (∀ p ∈ rest, p.1 ≠ la)
theorem beg_keys {w : World} {ko : Obj} {kvk : List (Int × Value)} {evs : List Ev} {ns : List Int} (hd : ko.IsDictOf (intKind prg w) kvk) (hkm : ∀ k, k ∈ kvk.map (·.1) ↔ ∃ e ∈ evs, e.key = k) (p : ns.Perm (kvk.map (·.1))) (o : ns.Pairwise (fun x y => x ≤ y)) : KeysOf ns evs :=
  ⟨o, p.nodup_iff.mpr (dict_nodup hd), fun k => (p.mem_iff).trans (hkm k)⟩
theorem news_sep {h₀ h : Heap} {L a b : Addr} {news : Led} {x y : Obj} (N : News h₀ L h news) (hx : (a, x) ∈ news) (hy : (b, y) ∈ news) (hc : x.cls ≠ y.cls) : @Ne Nat a b := by
  intro e
  have h1 := (N _ hx).1
  have h2 := (N _ hy).1
  dsimp only at h1 h2
  rw [show a = b from e, h2] at h1
  exact hc (by rw [Option.some.inj h1])
theorem beg_call {w : World} {f2 D2 tup D1 kd la sl dt th evl : Addr} {kvs kvk : List (Int × Value)} {evs : List Ev} {ko : Obj} {es : List DictEntry} {vs1 vs2 : List Value} {ns1 ns2 : List Int} {c1 c2 n2 n nT : Nat} {tw : Tok} {w0 : Value} {rest : Led}
    {p : Program} {loose : List Str} {mean : ExcName → Option Value} {mg mb : Str → Option Value} {dp un : Nat} {gd : Option (List Code)} {cn : Str} {cs : Scope} {a : Addr} {ccd : Value} {cl : List (Str × Addr)} {outer : List Env} {A₀ : Around} {base h₀ : Heap} {L : Addr} {m : Str → Option Value} {s : Shared} {Q E : Value → Shared → Prop}
    (B : Below A₀ base outer h₀) (F : Fr h₀ L s.heap m) (X : (hd.heap_1 w.params).In h₀)
    (N : News h₀ L s.heap ((D2, listOf vs2.toArray c2) :: (tup, tupOf [.str "await" tw, .ref D1, .ref evl, .ref la] 0) :: (D1, listOf vs1.toArray c1) :: (kd, ko) :: (la, listOf (evs.map (lastV kvs)).toArray n2) :: (sl, listOf [].toArray n) :: (dt, dictOf es nT) :: rest)) (T : Top p loose mean mg mb h₀) (hk : cs.kind = .function)
    (hS : SleepS w f2 sl rest) (hth : (th, instObj 94 dt) ∈ rest) (hw : getL "wait" es = some (some w0)) (hes : es.length ≤ 50) (off : OwnOff rest [sl, dt]) (hne : @Ne Nat sl dt)
    (hd : ko.IsDictOf (intKind prg w) kvk) (hkm : ∀ k, k ∈ kvk.map (·.1) ↔ ∃ e ∈ evs, e.key = k) (i1 : IntsAre vs1 ns1) (p1 : ns1.Perm (kvk.map (·.1))) (o1 : ns1.Pairwise (fun x y => x ≤ y)) (i2 : IntsAre vs2 ns2) (e2 : ns2.length ≤ 60) (p2 : ns2.Perm (kvk.map (·.1))) (o2 : ns2.Pairwise (fun x y => x ≤ y))
    (l1 : @LT.lt Nat _ sl la ∧ @LT.lt Nat _ dt la ∧ AllLt la rest) (l2 : @LT.lt Nat _ la kd ∧ @LT.lt Nat _ la D1 ∧ @LT.lt Nat _ la D2)
    (hdp : dp + 1 < recursionLimit) (hun : un + 64 < cLine)
    (k : ∀ r news' h' tk', Fr h₀ L h' m → News h₀ L h' news' → BeginPost kvs evs sl dt evl es rest r news' → Q r { s with heap := h', toks := tk' }) :
    wpAny (model prg w) (ktrTop dp un gd cn cs L a ccd cl outer) (call (.ref f2) [.ref th, .ref tup, .ref D2]) Q E s := by
  have k1 := beg_keys hd hkm p1 o1
  have k2 := beg_keys hd hkm p2 o2
  have ek : ns2 = ns1 := k2.unique k1
  subst ek
  obtain ⟨l3, l4, l5⟩ := l1
  obtain ⟨l6, l7, l9⟩ := l2
  have t1 : @Ne Nat tup la := news_sep N (List.Mem.tail _ (List.Mem.head _)) (List.Mem.tail _ (List.Mem.tail _ (List.Mem.tail _ (List.Mem.tail _ (List.Mem.head _))))) (by simp)
  have t2 : @Ne Nat tup sl := news_sep N (List.Mem.tail _ (List.Mem.head _)) (List.Mem.tail _ (List.Mem.tail _ (List.Mem.tail _ (List.Mem.tail _ (List.Mem.tail _ (List.Mem.head _)))))) (by simp)
  have t3 : @Ne Nat tup dt := news_sep N (List.Mem.tail _ (List.Mem.head _)) (List.Mem.tail _ (List.Mem.tail _ (List.Mem.tail _ (List.Mem.tail _ (List.Mem.tail _ (List.Mem.tail _ (List.Mem.head _))))))) (by simp)
  have off2 : OwnOff ((la, listOf (evs.map (lastV kvs)).toArray n2) :: (D2, listOf vs2.toArray c2) :: (tup, tupOf [.str "await" tw, .ref D1, .ref evl, .ref la] 0) :: (D1, listOf vs1.toArray c1) :: (kd, ko) :: rest) [sl, dt] := by
    intro q hq b hb
    simp only [List.mem_cons, List.mem_nil_iff, or_false] at hq hb
    rcases hq with rfl | rfl | rfl | rfl | rfl | hq
    iterate 5 (rcases hb with rfl | rfl <;> (dsimp only; show @Ne Nat _ _; omega))
    exact off q hq b (by rcases hb with rfl | rfl <;> simp)
  refine Ctr.use B F X (cb_drop N ?_ : News h₀ L s.heap ((sl, listOf [].toArray n) :: (dt, dictOf es nT) :: ((la, listOf (evs.map (lastV kvs)).toArray n2) :: (D2, listOf vs2.toArray c2) :: (tup, tupOf [.str "await" tw, .ref D1, .ref evl, .ref la] 0) :: (D1, listOf vs1.toArray c1) :: (kd, ko) :: rest))) T hk
    (hS _ [] n th dt es nT w0 (.ref tup) D2 vs2 ns2 c2 (fun p hp => by simp [hp]) off2 hne (by simp [hth]) hw (by omega) (by simp) (by rfl) (by simp) i2 (by omega)) hdp hun ?_
  · intro p hp
    simp only [List.mem_cons] at hp ⊢
    rcases hp with h | h | h | h | h | h | h | h <;> simp only [h, eq_self, true_or, or_true]
  · rintro r news' h' tk' F' N' ⟨rfl, nl, vs', n1, n3, es', nT', rfl, i3, gw, le, a1, a2, a3⟩
    simp only [AllLt] at a3
    refine k _ _ h' tk' F' (cb_drop N' ?_) ⟨nl, n1, es', nT', la, n2, [(nl, listOf vs'.toArray n3), (D2, listOf vs2.toArray c2), (tup, tupOf [.str "await" tw, .ref D1, .ref evl, .ref la] 0), (D1, listOf vs1.toArray c1), (kd, ko)], tup, tw, D1, vs1, c1, ns2, vs', n3, rfl, rfl, gw, le, by simp, by simp, i1, by simp, i3, k1, ?_, ?_, ?_, ?_⟩
    · intro p hp
      simp only [List.mem_cons, List.mem_append, List.mem_nil_iff, or_false] at hp ⊢
      rcases hp with h | h | h | (h | h | h | h | h) | h <;> simp only [h, eq_self, true_or, or_true, List.nil_append]
    · intro q hq
      simp only [List.mem_cons, List.mem_nil_iff, or_false] at hq
      rcases hq with rfl | rfl | rfl | rfl | rfl <;> (dsimp only; refine ⟨?_, ?_, ?_⟩ <;> (show @Ne Nat _ _; omega))
    · show @Ne Nat _ _; omega
    · show @Ne Nat _ _; omega
    · exact fun q hq => Nat.ne_of_lt (tb_ltOf l5 q hq)
set_option maxRecDepth 100000 in
set_option maxHeartbeats 8000000 in
theorem begin_c (w : World) (nk : Int) (mx th dt evl hl sl : Addr) (ho : Obj) (kvs : List (Int × Value)) (hv : Int → V3) (es : List DictEntry) (nT n : Nat) (w0 : Value) (rest : Led) (evs : List Ev)
    (hM : Mach w mx hl sl rest) (hth : (th, instObj 94 dt) ∈ rest) (hho : (hl, ho) ∈ rest) (hd0 : ho.IsDictOf (intKind prg w) kvs) (hev : EvsAt rest evl evs) (hok : ∀ e ∈ evs, EvOk nk e) (hlen : evs.length ≤ 4)
    (hheld : HeldOk nk kvs hv rest) (off : OwnOff rest [sl, dt]) (hne : @Ne Nat sl dt) (hw : getL "wait" es = some (some w0)) (hes : es.length ≤ 50) :
    Ctr w 77 [.ref mx, .ref th, .ref evl] 8 256 ((sl, listOf [].toArray n) :: (dt, dictOf es nT) :: rest) (BeginPost kvs evs sl dt evl es rest) := by
  obtain ⟨vsE, nE, hevl, hD⟩ := hev
  obtain ⟨dx, esM, nM, f1, f2, fd1, fd2, oc1, oc2, od1, od2, sl1, sl2, m1, m2, m3, m4, m5, m6, hF, hS⟩ := hM
  intro p loose mean mg mb dp un gd cn cs a ccd cl outer A₀ base h₀ L m s Q E B F X N T hk hd hu hret
  have hM := kdMark
  refine wpAny_call ?_
  k_dflt ktr_enter
  repeat' (first | (k_unfold; (try dsimp only)) | (k_end; wrow_close) | ((with_reducible show wpAny _ _ (PySem.callWith _ (Value.ref _) _ _ _) _ _ _); (k_dflt (refine' callWith_F ?zzk1 ?_; (case zzk1 => exact FnAt.of (by k_asm) (by k_mem)); k_whole))) | ((with_reducible show wpAny _ _ (PySem.getAttr (Value.ref _) _ _) _ _ _); (k_dflt (refine' get_own ?zzk1 ?zzk2 ?zzk3 ?zzk4 ?zzk5 ?zzk6 ?zzk7 ?zzk8 ?zzk9 ?_; (case zzk1 => k_asm); (case zzk2 => k_asm); (case zzk3 => k_inst); (case zzk4 => k_is); (case zzk5 => k_is); (case zzk6 => k_is); (case zzk7 => k_is); (case zzk8 => first | assumption | k_get); (case zzk9 => k_handed); k_whole))) | ((with_reducible show UnrEnd _ _ _ _ _ _ _); ((rename News _ _ _ _ => lN'); first | (refine' unrEnd_rem (by assumption) lN' ?zzhr ?zzho ?_; (case zzhr => (repeat (first | exact Rem.head | refine Rem.tail ?_))); (case zzho => k_all); (try dsimp only); (first | (refine' And.intro ?zzhq ?_; (case zzhq => k_dflt k_mem)) | skip); (try clear lN'); walk_say "TURN ENDS"))) | (((with_reducible show wpAny _ _ (pyIter (Value.ref _)) (fun it s₂ => LoopAtV _ _ _ _ _ _ _ _ _ it s₂) _ _); (rename Fr _ _ _ _ => lF'); (rename News _ _ _ _ => lN'); (with_unfolding_all refine' iter_listUnr (by rfl) lF' lN' ?zzhm ?zzhc ?zzhd ?_; (case zzhm => k_mem); (case zzhc => rfl); (case zzhd => rfl); k_whole; intro i' l1; (try k_lt l1); clear lF' lN'); walk_say "UNROLLED")) | (((with_reducible show wpAny _ _ (call (Value.builtin _) [Value.ref _]) _ _ _); k_dflt (refine' sorted_dict (by rfl) ?zzlo ?zzF ?zzN ?zzm ?zzd ?zzz ?_; (case zzF => k_asm); (case zzN => k_asm); (case zzm => k_mem); (case zzd => assumption); (case zzlo => assumption); (case zzz => omega)); intro D' c' vs' ns' h' tk' F' N' l1 i' e' p' o'; (try simp only [AllLt] at l1); (try dsimp only); (try k_fold); (try k_sweep); walk_say "SORTED DICT")) | ((with_reducible show wpAny _ _ (PySem.setItem (Value.ref _) (Value.int _ _) _) _ _ _); (k_dflt (refine' kda_set (knd := PySem.intKind _ _) ?zzF ?zzN ?zzU ?zzd (intKind_is _ _ _ _) ?zzz ?_; (case zzF => k_asm); (case zzN => k_asm); (case zzU => k_updF); (case zzd => assumption); (case zzz => rw [sizeLine_eq]; omega)); intro h' o' F' N' hd'; (try dsimp only at N'))) | (((with_reducible show wpAny _ _ (call (Value.ref 56) _) _ _ _); k_dflt (refine' Ctr.use ?zzk1 ?zzk2 ?zzk3 ?zzk4 ?zzk5 ?zzkK (reads_c _ _ _ _ _ _ _ _ _ ?zzq1 ?zzq2 ?zzq3) ?zzkd ?zzku ?_; (case zzk1 => k_asm); (case zzk2 => k_asm); (case zzk3 => k_asm); (case zzk4 => k_asm); (case zzk5 => k_asm); (case zzkK => first | exact rfl | assumption); (case zzq1 => k_mem); (case zzq2 => assumption); (case zzq3 => assumption); (case zzkd => ktr_room); (case zzku => ktr_units)); intro r9 n9 h9 tk9 F9 N9 e9; obtain ⟨l9, t9, n8, e8, e7, l8⟩ := e9; subst e7; subst e8; (try simp only [AllLt] at l8); (try dsimp only); (try k_fold); (try k_sweep); walk_say "CALL 56")) | (((with_reducible show wpAny _ _ (call (Value.ref _) _) _ _ _); k_dflt (refine' Ctr.use ?zzk1 ?zzk2 ?zzk3 ?zzk4 ?zzk5 ?zzkK (FoundS.use ?zzq0 ?zzq1 ?zzq2 ?zzq3 ?zzq4 ?zzq5) ?zzkd ?zzku ?_; (case zzk1 => k_asm); (case zzk2 => k_asm); (case zzk3 => k_asm); (case zzk4 => k_asm); (case zzk5 => k_asm); (case zzkK => first | exact rfl | assumption); (case zzq0 => assumption); (case zzq2 => k_mem); (case zzq4 => k_mem); (case zzq3 => assumption); (case zzq5 => assumption); (case zzq1 => (intro p9 hp9; repeat (first | exact hp9 | refine List.Mem.tail _ ?_))); (case zzkd => ktr_room); (case zzku => ktr_units)); intro r9 n9 h9 tk9 F9 N9 e9; obtain ⟨e8, e7⟩ := e9; subst e8; subst e7; (try dsimp only); (try k_fold); (try k_sweep); walk_say "CALL FOUND")) | ((with_reducible show wpAny _ _ (PySem.execs (_ :: _) _) _ _ _); ((with_reducible refine wpAny_execs_cons ?_); (try dsimp only); (try k_fold))) | walk1 | (dsimp only; (first | ((with_reducible show wpAny _ _ (PySem.callWith _ (Value.ref _) _ _ _) _ _ _); (k_dflt (refine' callWith_F ?zzk1 ?_; (case zzk1 => exact FnAt.of (by k_asm) (by k_mem)); k_whole))) | ((with_reducible show wpAny _ _ (PySem.getAttr (Value.ref _) _ _) _ _ _); (k_dflt (refine' get_own ?zzk1 ?zzk2 ?zzk3 ?zzk4 ?zzk5 ?zzk6 ?zzk7 ?zzk8 ?zzk9 ?_; (case zzk1 => k_asm); (case zzk2 => k_asm); (case zzk3 => k_inst); (case zzk4 => k_is); (case zzk5 => k_is); (case zzk6 => k_is); (case zzk7 => k_is); (case zzk8 => first | assumption | k_get); (case zzk9 => k_handed); k_whole))) | ((with_reducible show UnrEnd _ _ _ _ _ _ _); ((rename News _ _ _ _ => lN'); first | (refine' unrEnd_rem (by assumption) lN' ?zzhr ?zzho ?_; (case zzhr => (repeat (first | exact Rem.head | refine Rem.tail ?_))); (case zzho => k_all); (try dsimp only); (first | (refine' And.intro ?zzhq ?_; (case zzhq => k_dflt k_mem)) | skip); (try clear lN'); walk_say "TURN ENDS"))) | (((with_reducible show wpAny _ _ (pyIter (Value.ref _)) (fun it s₂ => LoopAtV _ _ _ _ _ _ _ _ _ it s₂) _ _); (rename Fr _ _ _ _ => lF'); (rename News _ _ _ _ => lN'); (with_unfolding_all refine' iter_listUnr (by rfl) lF' lN' ?zzhm ?zzhc ?zzhd ?_; (case zzhm => k_mem); (case zzhc => rfl); (case zzhd => rfl); k_whole; intro i' l1; (try k_lt l1); clear lF' lN'); walk_say "UNROLLED")) | (((with_reducible show wpAny _ _ (call (Value.builtin _) [Value.ref _]) _ _ _); k_dflt (refine' sorted_dict (by rfl) ?zzlo ?zzF ?zzN ?zzm ?zzd ?zzz ?_; (case zzF => k_asm); (case zzN => k_asm); (case zzm => k_mem); (case zzd => assumption); (case zzlo => assumption); (case zzz => omega)); intro D' c' vs' ns' h' tk' F' N' l1 i' e' p' o'; (try simp only [AllLt] at l1); (try dsimp only); (try k_fold); (try k_sweep); walk_say "SORTED DICT")) | ((with_reducible show wpAny _ _ (PySem.setItem (Value.ref _) (Value.int _ _) _) _ _ _); (k_dflt (refine' kda_set (knd := PySem.intKind _ _) ?zzF ?zzN ?zzU ?zzd (intKind_is _ _ _ _) ?zzz ?_; (case zzF => k_asm); (case zzN => k_asm); (case zzU => k_updF); (case zzd => assumption); (case zzz => rw [sizeLine_eq]; omega)); intro h' o' F' N' hd'; (try dsimp only at N'))) | (((with_reducible show wpAny _ _ (call (Value.ref 56) _) _ _ _); k_dflt (refine' Ctr.use ?zzk1 ?zzk2 ?zzk3 ?zzk4 ?zzk5 ?zzkK (reads_c _ _ _ _ _ _ _ _ _ ?zzq1 ?zzq2 ?zzq3) ?zzkd ?zzku ?_; (case zzk1 => k_asm); (case zzk2 => k_asm); (case zzk3 => k_asm); (case zzk4 => k_asm); (case zzk5 => k_asm); (case zzkK => first | exact rfl | assumption); (case zzq1 => k_mem); (case zzq2 => assumption); (case zzq3 => assumption); (case zzkd => ktr_room); (case zzku => ktr_units)); intro r9 n9 h9 tk9 F9 N9 e9; obtain ⟨l9, t9, n8, e8, e7, l8⟩ := e9; subst e7; subst e8; (try simp only [AllLt] at l8); (try dsimp only); (try k_fold); (try k_sweep); walk_say "CALL 56")) | (((with_reducible show wpAny _ _ (call (Value.ref _) _) _ _ _); k_dflt (refine' Ctr.use ?zzk1 ?zzk2 ?zzk3 ?zzk4 ?zzk5 ?zzkK (FoundS.use ?zzq0 ?zzq1 ?zzq2 ?zzq3 ?zzq4 ?zzq5) ?zzkd ?zzku ?_; (case zzk1 => k_asm); (case zzk2 => k_asm); (case zzk3 => k_asm); (case zzk4 => k_asm); (case zzk5 => k_asm); (case zzkK => first | exact rfl | assumption); (case zzq0 => assumption); (case zzq2 => k_mem); (case zzq4 => k_mem); (case zzq3 => assumption); (case zzq5 => assumption); (case zzq1 => (intro p9 hp9; repeat (first | exact hp9 | refine List.Mem.tail _ ?_))); (case zzkd => ktr_room); (case zzku => ktr_units)); intro r9 n9 h9 tk9 F9 N9 e9; obtain ⟨e8, e7⟩ := e9; subst e8; subst e7; (try dsimp only); (try k_fold); (try k_sweep); walk_say "CALL FOUND")) | ((with_reducible show wpAny _ _ (PySem.execs (_ :: _) _) _ _ _); ((with_reducible refine wpAny_execs_cons ?_); (try dsimp only); (try k_fold))) | walk1)) | (leave1; walk_say "STEP leave1"; try dsimp only) | fail "no step")
  (rename Fr _ _ _ _ => lF)
  (rename News _ _ _ _ => lN)
  refine For_W lF ?_ (fun _ => rfl)
  repeat' (first | (k_unfold; (try dsimp only)) | (k_end; wrow_close) | ((with_reducible show wpAny _ _ (PySem.callWith _ (Value.ref _) _ _ _) _ _ _); (k_dflt (refine' callWith_F ?zzk1 ?_; (case zzk1 => exact FnAt.of (by k_asm) (by k_mem)); k_whole))) | ((with_reducible show wpAny _ _ (PySem.getAttr (Value.ref _) _ _) _ _ _); (k_dflt (refine' get_own ?zzk1 ?zzk2 ?zzk3 ?zzk4 ?zzk5 ?zzk6 ?zzk7 ?zzk8 ?zzk9 ?_; (case zzk1 => k_asm); (case zzk2 => k_asm); (case zzk3 => k_inst); (case zzk4 => k_is); (case zzk5 => k_is); (case zzk6 => k_is); (case zzk7 => k_is); (case zzk8 => first | assumption | k_get); (case zzk9 => k_handed); k_whole))) | ((with_reducible show UnrEnd _ _ _ _ _ _ _); ((rename News _ _ _ _ => lN'); first | (refine' unrEnd_rem (by assumption) lN' ?zzhr ?zzho ?_; (case zzhr => (repeat (first | exact Rem.head | refine Rem.tail ?_))); (case zzho => k_all); (try dsimp only); (first | (refine' And.intro ?zzhq ?_; (case zzhq => k_dflt k_mem)) | skip); (try clear lN'); walk_say "TURN ENDS"))) | (((with_reducible show wpAny _ _ (pyIter (Value.ref _)) (fun it s₂ => LoopAtV _ _ _ _ _ _ _ _ _ it s₂) _ _); (rename Fr _ _ _ _ => lF'); (rename News _ _ _ _ => lN'); (with_unfolding_all refine' iter_listUnr (by rfl) lF' lN' ?zzhm ?zzhc ?zzhd ?_; (case zzhm => k_mem); (case zzhc => rfl); (case zzhd => rfl); k_whole; intro i' l1; (try k_lt l1); clear lF' lN'); walk_say "UNROLLED")) | (((with_reducible show wpAny _ _ (call (Value.builtin _) [Value.ref _]) _ _ _); k_dflt (refine' sorted_dict (by rfl) ?zzlo ?zzF ?zzN ?zzm ?zzd ?zzz ?_; (case zzF => k_asm); (case zzN => k_asm); (case zzm => k_mem); (case zzd => assumption); (case zzlo => assumption); (case zzz => omega)); intro D' c' vs' ns' h' tk' F' N' l1 i' e' p' o'; (try simp only [AllLt] at l1); (try dsimp only); (try k_fold); (try k_sweep); walk_say "SORTED DICT")) | ((with_reducible show wpAny _ _ (PySem.setItem (Value.ref _) (Value.int _ _) _) _ _ _); (k_dflt (refine' kda_set (knd := PySem.intKind _ _) ?zzF ?zzN ?zzU ?zzd (intKind_is _ _ _ _) ?zzz ?_; (case zzF => k_asm); (case zzN => k_asm); (case zzU => k_updF); (case zzd => assumption); (case zzz => rw [sizeLine_eq]; omega)); intro h' o' F' N' hd'; (try dsimp only at N'))) | (((with_reducible show wpAny _ _ (call (Value.ref 56) _) _ _ _); k_dflt (refine' Ctr.use ?zzk1 ?zzk2 ?zzk3 ?zzk4 ?zzk5 ?zzkK (reads_c _ _ _ _ _ _ _ _ _ ?zzq1 ?zzq2 ?zzq3) ?zzkd ?zzku ?_; (case zzk1 => k_asm); (case zzk2 => k_asm); (case zzk3 => k_asm); (case zzk4 => k_asm); (case zzk5 => k_asm); (case zzkK => first | exact rfl | assumption); (case zzq1 => k_mem); (case zzq2 => assumption); (case zzq3 => assumption); (case zzkd => ktr_room); (case zzku => ktr_units)); intro r9 n9 h9 tk9 F9 N9 e9; obtain ⟨l9, t9, n8, e8, e7, l8⟩ := e9; subst e7; subst e8; (try simp only [AllLt] at l8); (try dsimp only); (try k_fold); (try k_sweep); walk_say "CALL 56")) | (((with_reducible show wpAny _ _ (call (Value.ref _) _) _ _ _); k_dflt (refine' Ctr.use ?zzk1 ?zzk2 ?zzk3 ?zzk4 ?zzk5 ?zzkK (FoundS.use ?zzq0 ?zzq1 ?zzq2 ?zzq3 ?zzq4 ?zzq5) ?zzkd ?zzku ?_; (case zzk1 => k_asm); (case zzk2 => k_asm); (case zzk3 => k_asm); (case zzk4 => k_asm); (case zzk5 => k_asm); (case zzkK => first | exact rfl | assumption); (case zzq0 => assumption); (case zzq2 => k_mem); (case zzq4 => k_mem); (case zzq3 => assumption); (case zzq5 => assumption); (case zzq1 => (intro p9 hp9; repeat (first | exact hp9 | refine List.Mem.tail _ ?_))); (case zzkd => ktr_room); (case zzku => ktr_units)); intro r9 n9 h9 tk9 F9 N9 e9; obtain ⟨e8, e7⟩ := e9; subst e8; subst e7; (try dsimp only); (try k_fold); (try k_sweep); walk_say "CALL FOUND")) | ((with_reducible show wpAny _ _ (PySem.execs (_ :: _) _) _ _ _); ((with_reducible refine wpAny_execs_cons ?_); (try dsimp only); (try k_fold))) | walk1 | (dsimp only; (first | ((with_reducible show wpAny _ _ (PySem.callWith _ (Value.ref _) _ _ _) _ _ _); (k_dflt (refine' callWith_F ?zzk1 ?_; (case zzk1 => exact FnAt.of (by k_asm) (by k_mem)); k_whole))) | ((with_reducible show wpAny _ _ (PySem.getAttr (Value.ref _) _ _) _ _ _); (k_dflt (refine' get_own ?zzk1 ?zzk2 ?zzk3 ?zzk4 ?zzk5 ?zzk6 ?zzk7 ?zzk8 ?zzk9 ?_; (case zzk1 => k_asm); (case zzk2 => k_asm); (case zzk3 => k_inst); (case zzk4 => k_is); (case zzk5 => k_is); (case zzk6 => k_is); (case zzk7 => k_is); (case zzk8 => first | assumption | k_get); (case zzk9 => k_handed); k_whole))) | ((with_reducible show UnrEnd _ _ _ _ _ _ _); ((rename News _ _ _ _ => lN'); first | (refine' unrEnd_rem (by assumption) lN' ?zzhr ?zzho ?_; (case zzhr => (repeat (first | exact Rem.head | refine Rem.tail ?_))); (case zzho => k_all); (try dsimp only); (first | (refine' And.intro ?zzhq ?_; (case zzhq => k_dflt k_mem)) | skip); (try clear lN'); walk_say "TURN ENDS"))) | (((with_reducible show wpAny _ _ (pyIter (Value.ref _)) (fun it s₂ => LoopAtV _ _ _ _ _ _ _ _ _ it s₂) _ _); (rename Fr _ _ _ _ => lF'); (rename News _ _ _ _ => lN'); (with_unfolding_all refine' iter_listUnr (by rfl) lF' lN' ?zzhm ?zzhc ?zzhd ?_; (case zzhm => k_mem); (case zzhc => rfl); (case zzhd => rfl); k_whole; intro i' l1; (try k_lt l1); clear lF' lN'); walk_say "UNROLLED")) | (((with_reducible show wpAny _ _ (call (Value.builtin _) [Value.ref _]) _ _ _); k_dflt (refine' sorted_dict (by rfl) ?zzlo ?zzF ?zzN ?zzm ?zzd ?zzz ?_; (case zzF => k_asm); (case zzN => k_asm); (case zzm => k_mem); (case zzd => assumption); (case zzlo => assumption); (case zzz => omega)); intro D' c' vs' ns' h' tk' F' N' l1 i' e' p' o'; (try simp only [AllLt] at l1); (try dsimp only); (try k_fold); (try k_sweep); walk_say "SORTED DICT")) | ((with_reducible show wpAny _ _ (PySem.setItem (Value.ref _) (Value.int _ _) _) _ _ _); (k_dflt (refine' kda_set (knd := PySem.intKind _ _) ?zzF ?zzN ?zzU ?zzd (intKind_is _ _ _ _) ?zzz ?_; (case zzF => k_asm); (case zzN => k_asm); (case zzU => k_updF); (case zzd => assumption); (case zzz => rw [sizeLine_eq]; omega)); intro h' o' F' N' hd'; (try dsimp only at N'))) | (((with_reducible show wpAny _ _ (call (Value.ref 56) _) _ _ _); k_dflt (refine' Ctr.use ?zzk1 ?zzk2 ?zzk3 ?zzk4 ?zzk5 ?zzkK (reads_c _ _ _ _ _ _ _ _ _ ?zzq1 ?zzq2 ?zzq3) ?zzkd ?zzku ?_; (case zzk1 => k_asm); (case zzk2 => k_asm); (case zzk3 => k_asm); (case zzk4 => k_asm); (case zzk5 => k_asm); (case zzkK => first | exact rfl | assumption); (case zzq1 => k_mem); (case zzq2 => assumption); (case zzq3 => assumption); (case zzkd => ktr_room); (case zzku => ktr_units)); intro r9 n9 h9 tk9 F9 N9 e9; obtain ⟨l9, t9, n8, e8, e7, l8⟩ := e9; subst e7; subst e8; (try simp only [AllLt] at l8); (try dsimp only); (try k_fold); (try k_sweep); walk_say "CALL 56")) | (((with_reducible show wpAny _ _ (call (Value.ref _) _) _ _ _); k_dflt (refine' Ctr.use ?zzk1 ?zzk2 ?zzk3 ?zzk4 ?zzk5 ?zzkK (FoundS.use ?zzq0 ?zzq1 ?zzq2 ?zzq3 ?zzq4 ?zzq5) ?zzkd ?zzku ?_; (case zzk1 => k_asm); (case zzk2 => k_asm); (case zzk3 => k_asm); (case zzk4 => k_asm); (case zzk5 => k_asm); (case zzkK => first | exact rfl | assumption); (case zzq0 => assumption); (case zzq2 => k_mem); (case zzq4 => k_mem); (case zzq3 => assumption); (case zzq5 => assumption); (case zzq1 => (intro p9 hp9; repeat (first | exact hp9 | refine List.Mem.tail _ ?_))); (case zzkd => ktr_room); (case zzku => ktr_units)); intro r9 n9 h9 tk9 F9 N9 e9; obtain ⟨e8, e7⟩ := e9; subst e8; subst e7; (try dsimp only); (try k_fold); (try k_sweep); walk_say "CALL FOUND")) | ((with_reducible show wpAny _ _ (PySem.execs (_ :: _) _) _ _ _); ((with_reducible refine wpAny_execs_cons ?_); (try dsimp only); (try k_fold))) | walk1)) | (leave1; walk_say "STEP leave1"; try dsimp only) | fail "no step")
  refine iterW_listS ["edge", "e", "key"] (BegJ w kvs evs _ _ sl dt es n nT rest) (by rfl) (by k_mem) lF lN ⟨_, [], _, rfl, by assumption, Nat.le_refl _, by simp⟩ ?keep ?turn ?done
  case keep =>
    rintro i nx ⟨ko, kvk, n2, rfl, _⟩
    simp [hevl]
  case turn =>
    intro i v u nx h tk own hv hown ⟨ko, kvk, n2, enx, hko, hkl, hkm⟩ F1 N1
    subst enx
    obtain ⟨e, he, hDe⟩ := evs_get hD hv
    obtain ⟨x, y, t1, t2, t3, t4, n3, n4, rfl, hx, hy⟩ := ev_open hDe
    have hoff2 := beg_off off (by assumption) (by assumption) hown
    have hi : i < evs.length := (List.getElem?_eq_some_iff.mp he).1
    have hEv := hok e (List.mem_of_getElem? he)
    have htk : evs.take (i + 1) = evs.take i ++ [e] := by rw [List.take_add_one, he]; rfl
    simp only [List.cons_append] at N1
    obtain ⟨r2, hr2⟩ : ∃ r2, r2 = rest ++ own := ⟨_, rfl⟩
    rw [← hr2] at N1 hoff2
    have hsub : ∀ p ∈ rest, p ∈ r2 := fun p hp => by rw [hr2]; exact List.mem_append.mpr (.inl hp)
    have hsub2 : ∀ p ∈ own, p ∈ r2 := fun p hp => by rw [hr2]; exact List.mem_append.mpr (.inr hp)
    replace hx := hsub _ hx
    replace hy := hsub _ hy
    replace m1 := hsub _ m1
    replace m2 := hsub _ m2
    replace m5 := hsub _ m5
    replace m6 := hsub _ m6
    replace hho := hsub _ hho
    replace hF := hF.mono hsub
    have k0 := hEv.k0
    have k9 := hEv.k9
    clear lN lF N F
    refine assign2 (by rfl) F1 N1 (by k_mem) (by rfl) (by rfl) (by rfl) ?_
    clear F1 N1
    intro h2 tk2 F2 N2
    cases hev : e.ev with
    | true =>
      simp only [evTag, hev, if_true] at hy
      repeat' (first | (k_unfold; (try dsimp only)) | (k_end; wrow_close) | ((with_reducible show wpAny _ _ (PySem.callWith _ (Value.ref _) _ _ _) _ _ _); (k_dflt (refine' callWith_F ?zzk1 ?_; (case zzk1 => exact FnAt.of (by k_asm) (by k_mem)); k_whole))) | ((with_reducible show wpAny _ _ (PySem.getAttr (Value.ref _) _ _) _ _ _); (k_dflt (refine' get_own ?zzk1 ?zzk2 ?zzk3 ?zzk4 ?zzk5 ?zzk6 ?zzk7 ?zzk8 ?zzk9 ?_; (case zzk1 => k_asm); (case zzk2 => k_asm); (case zzk3 => k_inst); (case zzk4 => k_is); (case zzk5 => k_is); (case zzk6 => k_is); (case zzk7 => k_is); (case zzk8 => first | assumption | k_get); (case zzk9 => k_handed); k_whole))) | ((with_reducible show UnrEnd _ _ _ _ _ _ _); ((rename News _ _ _ _ => lN'); first | (refine' unrEnd_rem (by assumption) lN' ?zzhr ?zzho ?_; (case zzhr => (repeat (first | exact Rem.head | refine Rem.tail ?_))); (case zzho => k_all); (try dsimp only); (first | (refine' And.intro ?zzhq ?_; (case zzhq => k_dflt k_mem)) | skip); (try clear lN'); walk_say "TURN ENDS"))) | (((with_reducible show wpAny _ _ (pyIter (Value.ref _)) (fun it s₂ => LoopAtV _ _ _ _ _ _ _ _ _ it s₂) _ _); (rename Fr _ _ _ _ => lF'); (rename News _ _ _ _ => lN'); (with_unfolding_all refine' iter_listUnr (by rfl) lF' lN' ?zzhm ?zzhc ?zzhd ?_; (case zzhm => k_mem); (case zzhc => rfl); (case zzhd => rfl); k_whole; intro i' l1; (try k_lt l1); clear lF' lN'); walk_say "UNROLLED")) | (((with_reducible show wpAny _ _ (call (Value.builtin _) [Value.ref _]) _ _ _); k_dflt (refine' sorted_dict (by rfl) ?zzlo ?zzF ?zzN ?zzm ?zzd ?zzz ?_; (case zzF => k_asm); (case zzN => k_asm); (case zzm => k_mem); (case zzd => assumption); (case zzlo => assumption); (case zzz => omega)); intro D' c' vs' ns' h' tk' F' N' l1 i' e' p' o'; (try simp only [AllLt] at l1); (try dsimp only); (try k_fold); (try k_sweep); walk_say "SORTED DICT")) | ((with_reducible show wpAny _ _ (PySem.setItem (Value.ref _) (Value.int _ _) _) _ _ _); (k_dflt (refine' kda_set (knd := PySem.intKind _ _) ?zzF ?zzN ?zzU ?zzd (intKind_is _ _ _ _) ?zzz ?_; (case zzF => k_asm); (case zzN => k_asm); (case zzU => k_updF); (case zzd => assumption); (case zzz => rw [sizeLine_eq]; omega)); intro h' o' F' N' hd'; (try dsimp only at N'))) | (((with_reducible show wpAny _ _ (call (Value.ref 56) _) _ _ _); k_dflt (refine' Ctr.use ?zzk1 ?zzk2 ?zzk3 ?zzk4 ?zzk5 ?zzkK (reads_c _ _ _ _ _ _ _ _ _ ?zzq1 ?zzq2 ?zzq3) ?zzkd ?zzku ?_; (case zzk1 => k_asm); (case zzk2 => k_asm); (case zzk3 => k_asm); (case zzk4 => k_asm); (case zzk5 => k_asm); (case zzkK => first | exact rfl | assumption); (case zzq1 => k_mem); (case zzq2 => assumption); (case zzq3 => assumption); (case zzkd => ktr_room); (case zzku => ktr_units)); intro r9 n9 h9 tk9 F9 N9 e9; obtain ⟨l9, t9, n8, e8, e7, l8⟩ := e9; subst e7; subst e8; (try simp only [AllLt] at l8); (try dsimp only); (try k_fold); (try k_sweep); walk_say "CALL 56")) | (((with_reducible show wpAny _ _ (call (Value.ref _) _) _ _ _); k_dflt (refine' Ctr.use ?zzk1 ?zzk2 ?zzk3 ?zzk4 ?zzk5 ?zzkK (FoundS.use ?zzq0 ?zzq1 ?zzq2 ?zzq3 ?zzq4 ?zzq5) ?zzkd ?zzku ?_; (case zzk1 => k_asm); (case zzk2 => k_asm); (case zzk3 => k_asm); (case zzk4 => k_asm); (case zzk5 => k_asm); (case zzkK => first | exact rfl | assumption); (case zzq0 => assumption); (case zzq2 => k_mem); (case zzq4 => k_mem); (case zzq3 => assumption); (case zzq5 => assumption); (case zzq1 => (intro p9 hp9; repeat (first | exact hp9 | refine List.Mem.tail _ ?_))); (case zzkd => ktr_room); (case zzku => ktr_units)); intro r9 n9 h9 tk9 F9 N9 e9; obtain ⟨e8, e7⟩ := e9; subst e8; subst e7; (try dsimp only); (try k_fold); (try k_sweep); walk_say "CALL FOUND")) | ((with_reducible show wpAny _ _ (PySem.execs (_ :: _) _) _ _ _); ((with_reducible refine wpAny_execs_cons ?_); (try dsimp only); (try k_fold))) | walk1 | (dsimp only; (first | ((with_reducible show wpAny _ _ (PySem.callWith _ (Value.ref _) _ _ _) _ _ _); (k_dflt (refine' callWith_F ?zzk1 ?_; (case zzk1 => exact FnAt.of (by k_asm) (by k_mem)); k_whole))) | ((with_reducible show wpAny _ _ (PySem.getAttr (Value.ref _) _ _) _ _ _); (k_dflt (refine' get_own ?zzk1 ?zzk2 ?zzk3 ?zzk4 ?zzk5 ?zzk6 ?zzk7 ?zzk8 ?zzk9 ?_; (case zzk1 => k_asm); (case zzk2 => k_asm); (case zzk3 => k_inst); (case zzk4 => k_is); (case zzk5 => k_is); (case zzk6 => k_is); (case zzk7 => k_is); (case zzk8 => first | assumption | k_get); (case zzk9 => k_handed); k_whole))) | ((with_reducible show UnrEnd _ _ _ _ _ _ _); ((rename News _ _ _ _ => lN'); first | (refine' unrEnd_rem (by assumption) lN' ?zzhr ?zzho ?_; (case zzhr => (repeat (first | exact Rem.head | refine Rem.tail ?_))); (case zzho => k_all); (try dsimp only); (first | (refine' And.intro ?zzhq ?_; (case zzhq => k_dflt k_mem)) | skip); (try clear lN'); walk_say "TURN ENDS"))) | (((with_reducible show wpAny _ _ (pyIter (Value.ref _)) (fun it s₂ => LoopAtV _ _ _ _ _ _ _ _ _ it s₂) _ _); (rename Fr _ _ _ _ => lF'); (rename News _ _ _ _ => lN'); (with_unfolding_all refine' iter_listUnr (by rfl) lF' lN' ?zzhm ?zzhc ?zzhd ?_; (case zzhm => k_mem); (case zzhc => rfl); (case zzhd => rfl); k_whole; intro i' l1; (try k_lt l1); clear lF' lN'); walk_say "UNROLLED")) | (((with_reducible show wpAny _ _ (call (Value.builtin _) [Value.ref _]) _ _ _); k_dflt (refine' sorted_dict (by rfl) ?zzlo ?zzF ?zzN ?zzm ?zzd ?zzz ?_; (case zzF => k_asm); (case zzN => k_asm); (case zzm => k_mem); (case zzd => assumption); (case zzlo => assumption); (case zzz => omega)); intro D' c' vs' ns' h' tk' F' N' l1 i' e' p' o'; (try simp only [AllLt] at l1); (try dsimp only); (try k_fold); (try k_sweep); walk_say "SORTED DICT")) | ((with_reducible show wpAny _ _ (PySem.setItem (Value.ref _) (Value.int _ _) _) _ _ _); (k_dflt (refine' kda_set (knd := PySem.intKind _ _) ?zzF ?zzN ?zzU ?zzd (intKind_is _ _ _ _) ?zzz ?_; (case zzF => k_asm); (case zzN => k_asm); (case zzU => k_updF); (case zzd => assumption); (case zzz => rw [sizeLine_eq]; omega)); intro h' o' F' N' hd'; (try dsimp only at N'))) | (((with_reducible show wpAny _ _ (call (Value.ref 56) _) _ _ _); k_dflt (refine' Ctr.use ?zzk1 ?zzk2 ?zzk3 ?zzk4 ?zzk5 ?zzkK (reads_c _ _ _ _ _ _ _ _ _ ?zzq1 ?zzq2 ?zzq3) ?zzkd ?zzku ?_; (case zzk1 => k_asm); (case zzk2 => k_asm); (case zzk3 => k_asm); (case zzk4 => k_asm); (case zzk5 => k_asm); (case zzkK => first | exact rfl | assumption); (case zzq1 => k_mem); (case zzq2 => assumption); (case zzq3 => assumption); (case zzkd => ktr_room); (case zzku => ktr_units)); intro r9 n9 h9 tk9 F9 N9 e9; obtain ⟨l9, t9, n8, e8, e7, l8⟩ := e9; subst e7; subst e8; (try simp only [AllLt] at l8); (try dsimp only); (try k_fold); (try k_sweep); walk_say "CALL 56")) | (((with_reducible show wpAny _ _ (call (Value.ref _) _) _ _ _); k_dflt (refine' Ctr.use ?zzk1 ?zzk2 ?zzk3 ?zzk4 ?zzk5 ?zzkK (FoundS.use ?zzq0 ?zzq1 ?zzq2 ?zzq3 ?zzq4 ?zzq5) ?zzkd ?zzku ?_; (case zzk1 => k_asm); (case zzk2 => k_asm); (case zzk3 => k_asm); (case zzk4 => k_asm); (case zzk5 => k_asm); (case zzkK => first | exact rfl | assumption); (case zzq0 => assumption); (case zzq2 => k_mem); (case zzq4 => k_mem); (case zzq3 => assumption); (case zzq5 => assumption); (case zzq1 => (intro p9 hp9; repeat (first | exact hp9 | refine List.Mem.tail _ ?_))); (case zzkd => ktr_room); (case zzku => ktr_units)); intro r9 n9 h9 tk9 F9 N9 e9; obtain ⟨e8, e7⟩ := e9; subst e8; subst e7; (try dsimp only); (try k_fold); (try k_sweep); walk_say "CALL FOUND")) | ((with_reducible show wpAny _ _ (PySem.execs (_ :: _) _) _ _ _); ((with_reducible refine wpAny_execs_cons ?_); (try dsimp only); (try k_fold))) | walk1)) | (leave1; walk_say "STEP leave1"; try dsimp only) | fail "no step")
      (rename News _ _ _ _ => lN)
      refine' beg_fin (by k_asm) lN ?hm (by assumption) hkl hkm htk hown hr2 ?hv ?sub
      case sub => exact fun p hp => hp
      case hm =>
        intro z hz
        simp at hz
        simp [hz]
      case hv => simp [lastV, hev]
    | false =>
      simp only [evTag, hev, Bool.false_eq_true, if_false] at hy
      obtain ⟨vv, hval, hvec⟩ := hheld e.key hEv.k0 (hEv.sig hev)
      repeat' (first | (k_unfold; (try dsimp only)) | (k_end; wrow_close) | ((with_reducible show wpAny _ _ (PySem.callWith _ (Value.ref _) _ _ _) _ _ _); (k_dflt (refine' callWith_F ?zzk1 ?_; (case zzk1 => exact FnAt.of (by k_asm) (by k_mem)); k_whole))) | ((with_reducible show wpAny _ _ (PySem.getAttr (Value.ref _) _ _) _ _ _); (k_dflt (refine' get_own ?zzk1 ?zzk2 ?zzk3 ?zzk4 ?zzk5 ?zzk6 ?zzk7 ?zzk8 ?zzk9 ?_; (case zzk1 => k_asm); (case zzk2 => k_asm); (case zzk3 => k_inst); (case zzk4 => k_is); (case zzk5 => k_is); (case zzk6 => k_is); (case zzk7 => k_is); (case zzk8 => first | assumption | k_get); (case zzk9 => k_handed); k_whole))) | ((with_reducible show UnrEnd _ _ _ _ _ _ _); ((rename News _ _ _ _ => lN'); first | (refine' unrEnd_rem (by assumption) lN' ?zzhr ?zzho ?_; (case zzhr => (repeat (first | exact Rem.head | refine Rem.tail ?_))); (case zzho => k_all); (try dsimp only); (first | (refine' And.intro ?zzhq ?_; (case zzhq => k_dflt k_mem)) | skip); (try clear lN'); walk_say "TURN ENDS"))) | (((with_reducible show wpAny _ _ (pyIter (Value.ref _)) (fun it s₂ => LoopAtV _ _ _ _ _ _ _ _ _ it s₂) _ _); (rename Fr _ _ _ _ => lF'); (rename News _ _ _ _ => lN'); (with_unfolding_all refine' iter_listUnr (by rfl) lF' lN' ?zzhm ?zzhc ?zzhd ?_; (case zzhm => k_mem); (case zzhc => rfl); (case zzhd => rfl); k_whole; intro i' l1; (try k_lt l1); clear lF' lN'); walk_say "UNROLLED")) | (((with_reducible show wpAny _ _ (call (Value.builtin _) [Value.ref _]) _ _ _); k_dflt (refine' sorted_dict (by rfl) ?zzlo ?zzF ?zzN ?zzm ?zzd ?zzz ?_; (case zzF => k_asm); (case zzN => k_asm); (case zzm => k_mem); (case zzd => assumption); (case zzlo => assumption); (case zzz => omega)); intro D' c' vs' ns' h' tk' F' N' l1 i' e' p' o'; (try simp only [AllLt] at l1); (try dsimp only); (try k_fold); (try k_sweep); walk_say "SORTED DICT")) | ((with_reducible show wpAny _ _ (PySem.setItem (Value.ref _) (Value.int _ _) _) _ _ _); (k_dflt (refine' kda_set (knd := PySem.intKind _ _) ?zzF ?zzN ?zzU ?zzd (intKind_is _ _ _ _) ?zzz ?_; (case zzF => k_asm); (case zzN => k_asm); (case zzU => k_updF); (case zzd => assumption); (case zzz => rw [sizeLine_eq]; omega)); intro h' o' F' N' hd'; (try dsimp only at N'))) | (((with_reducible show wpAny _ _ (call (Value.ref 56) _) _ _ _); k_dflt (refine' Ctr.use ?zzk1 ?zzk2 ?zzk3 ?zzk4 ?zzk5 ?zzkK (reads_c _ _ _ _ _ _ _ _ _ ?zzq1 ?zzq2 ?zzq3) ?zzkd ?zzku ?_; (case zzk1 => k_asm); (case zzk2 => k_asm); (case zzk3 => k_asm); (case zzk4 => k_asm); (case zzk5 => k_asm); (case zzkK => first | exact rfl | assumption); (case zzq1 => k_mem); (case zzq2 => assumption); (case zzq3 => assumption); (case zzkd => ktr_room); (case zzku => ktr_units)); intro r9 n9 h9 tk9 F9 N9 e9; obtain ⟨l9, t9, n8, e8, e7, l8⟩ := e9; subst e7; subst e8; (try simp only [AllLt] at l8); (try dsimp only); (try k_fold); (try k_sweep); walk_say "CALL 56")) | (((with_reducible show wpAny _ _ (call (Value.ref _) _) _ _ _); k_dflt (refine' Ctr.use ?zzk1 ?zzk2 ?zzk3 ?zzk4 ?zzk5 ?zzkK (FoundS.use ?zzq0 ?zzq1 ?zzq2 ?zzq3 ?zzq4 ?zzq5) ?zzkd ?zzku ?_; (case zzk1 => k_asm); (case zzk2 => k_asm); (case zzk3 => k_asm); (case zzk4 => k_asm); (case zzk5 => k_asm); (case zzkK => first | exact rfl | assumption); (case zzq0 => assumption); (case zzq2 => k_mem); (case zzq4 => k_mem); (case zzq3 => assumption); (case zzq5 => assumption); (case zzq1 => (intro p9 hp9; repeat (first | exact hp9 | refine List.Mem.tail _ ?_))); (case zzkd => ktr_room); (case zzku => ktr_units)); intro r9 n9 h9 tk9 F9 N9 e9; obtain ⟨e8, e7⟩ := e9; subst e8; subst e7; (try dsimp only); (try k_fold); (try k_sweep); walk_say "CALL FOUND")) | ((with_reducible show wpAny _ _ (PySem.execs (_ :: _) _) _ _ _); ((with_reducible refine wpAny_execs_cons ?_); (try dsimp only); (try k_fold))) | walk1 | (dsimp only; (first | ((with_reducible show wpAny _ _ (PySem.callWith _ (Value.ref _) _ _ _) _ _ _); (k_dflt (refine' callWith_F ?zzk1 ?_; (case zzk1 => exact FnAt.of (by k_asm) (by k_mem)); k_whole))) | ((with_reducible show wpAny _ _ (PySem.getAttr (Value.ref _) _ _) _ _ _); (k_dflt (refine' get_own ?zzk1 ?zzk2 ?zzk3 ?zzk4 ?zzk5 ?zzk6 ?zzk7 ?zzk8 ?zzk9 ?_; (case zzk1 => k_asm); (case zzk2 => k_asm); (case zzk3 => k_inst); (case zzk4 => k_is); (case zzk5 => k_is); (case zzk6 => k_is); (case zzk7 => k_is); (case zzk8 => first | assumption | k_get); (case zzk9 => k_handed); k_whole))) | ((with_reducible show UnrEnd _ _ _ _ _ _ _); ((rename News _ _ _ _ => lN'); first | (refine' unrEnd_rem (by assumption) lN' ?zzhr ?zzho ?_; (case zzhr => (repeat (first | exact Rem.head | refine Rem.tail ?_))); (case zzho => k_all); (try dsimp only); (first | (refine' And.intro ?zzhq ?_; (case zzhq => k_dflt k_mem)) | skip); (try clear lN'); walk_say "TURN ENDS"))) | (((with_reducible show wpAny _ _ (pyIter (Value.ref _)) (fun it s₂ => LoopAtV _ _ _ _ _ _ _ _ _ it s₂) _ _); (rename Fr _ _ _ _ => lF'); (rename News _ _ _ _ => lN'); (with_unfolding_all refine' iter_listUnr (by rfl) lF' lN' ?zzhm ?zzhc ?zzhd ?_; (case zzhm => k_mem); (case zzhc => rfl); (case zzhd => rfl); k_whole; intro i' l1; (try k_lt l1); clear lF' lN'); walk_say "UNROLLED")) | (((with_reducible show wpAny _ _ (call (Value.builtin _) [Value.ref _]) _ _ _); k_dflt (refine' sorted_dict (by rfl) ?zzlo ?zzF ?zzN ?zzm ?zzd ?zzz ?_; (case zzF => k_asm); (case zzN => k_asm); (case zzm => k_mem); (case zzd => assumption); (case zzlo => assumption); (case zzz => omega)); intro D' c' vs' ns' h' tk' F' N' l1 i' e' p' o'; (try simp only [AllLt] at l1); (try dsimp only); (try k_fold); (try k_sweep); walk_say "SORTED DICT")) | ((with_reducible show wpAny _ _ (PySem.setItem (Value.ref _) (Value.int _ _) _) _ _ _); (k_dflt (refine' kda_set (knd := PySem.intKind _ _) ?zzF ?zzN ?zzU ?zzd (intKind_is _ _ _ _) ?zzz ?_; (case zzF => k_asm); (case zzN => k_asm); (case zzU => k_updF); (case zzd => assumption); (case zzz => rw [sizeLine_eq]; omega)); intro h' o' F' N' hd'; (try dsimp only at N'))) | (((with_reducible show wpAny _ _ (call (Value.ref 56) _) _ _ _); k_dflt (refine' Ctr.use ?zzk1 ?zzk2 ?zzk3 ?zzk4 ?zzk5 ?zzkK (reads_c _ _ _ _ _ _ _ _ _ ?zzq1 ?zzq2 ?zzq3) ?zzkd ?zzku ?_; (case zzk1 => k_asm); (case zzk2 => k_asm); (case zzk3 => k_asm); (case zzk4 => k_asm); (case zzk5 => k_asm); (case zzkK => first | exact rfl | assumption); (case zzq1 => k_mem); (case zzq2 => assumption); (case zzq3 => assumption); (case zzkd => ktr_room); (case zzku => ktr_units)); intro r9 n9 h9 tk9 F9 N9 e9; obtain ⟨l9, t9, n8, e8, e7, l8⟩ := e9; subst e7; subst e8; (try simp only [AllLt] at l8); (try dsimp only); (try k_fold); (try k_sweep); walk_say "CALL 56")) | (((with_reducible show wpAny _ _ (call (Value.ref _) _) _ _ _); k_dflt (refine' Ctr.use ?zzk1 ?zzk2 ?zzk3 ?zzk4 ?zzk5 ?zzkK (FoundS.use ?zzq0 ?zzq1 ?zzq2 ?zzq3 ?zzq4 ?zzq5) ?zzkd ?zzku ?_; (case zzk1 => k_asm); (case zzk2 => k_asm); (case zzk3 => k_asm); (case zzk4 => k_asm); (case zzk5 => k_asm); (case zzkK => first | exact rfl | assumption); (case zzq0 => assumption); (case zzq2 => k_mem); (case zzq4 => k_mem); (case zzq3 => assumption); (case zzq5 => assumption); (case zzq1 => (intro p9 hp9; repeat (first | exact hp9 | refine List.Mem.tail _ ?_))); (case zzkd => ktr_room); (case zzku => ktr_units)); intro r9 n9 h9 tk9 F9 N9 e9; obtain ⟨e8, e7⟩ := e9; subst e8; subst e7; (try dsimp only); (try k_fold); (try k_sweep); walk_say "CALL FOUND")) | ((with_reducible show wpAny _ _ (PySem.execs (_ :: _) _) _ _ _); ((with_reducible refine wpAny_execs_cons ?_); (try dsimp only); (try k_fold))) | walk1)) | (leave1; walk_say "STEP leave1"; try dsimp only) | fail "no step")
      (rename News _ _ _ _ => lN)
      refine' beg_fin (by k_asm) lN ?hm (by assumption) hkl hkm htk hown hr2 ?hv ?sub
      case sub => exact fun p hp => List.Mem.tail _ hp
      case hm =>
        intro z hz
        simp at hz
        simp [hz]
      case hv => simp [lastV, hev, heldV, hval]
  case done =>
    intro u nx h tk ⟨ko, kvk, n2, enx, hko, hkl, hkm⟩ F1 N1
    subst enx
    clear lN lF N F
    rw [show vsE.length = evs.length by rw [hD.length, List.length_map]] at hkl hkm N1
    rw [List.take_length] at hkm N1
    repeat' (first | (k_unfold; (try dsimp only)) | (k_end; wrow_close) | ((with_reducible show wpAny _ _ (PySem.callWith _ (Value.ref _) _ _ _) _ _ _); (k_dflt (refine' callWith_F ?zzk1 ?_; (case zzk1 => exact FnAt.of (by k_asm) (by k_mem)); k_whole))) | ((with_reducible show wpAny _ _ (PySem.getAttr (Value.ref _) _ _) _ _ _); (k_dflt (refine' get_own ?zzk1 ?zzk2 ?zzk3 ?zzk4 ?zzk5 ?zzk6 ?zzk7 ?zzk8 ?zzk9 ?_; (case zzk1 => k_asm); (case zzk2 => k_asm); (case zzk3 => k_inst); (case zzk4 => k_is); (case zzk5 => k_is); (case zzk6 => k_is); (case zzk7 => k_is); (case zzk8 => first | assumption | k_get); (case zzk9 => k_handed); k_whole))) | ((with_reducible show UnrEnd _ _ _ _ _ _ _); ((rename News _ _ _ _ => lN'); first | (refine' unrEnd_rem (by assumption) lN' ?zzhr ?zzho ?_; (case zzhr => (repeat (first | exact Rem.head | refine Rem.tail ?_))); (case zzho => k_all); (try dsimp only); (first | (refine' And.intro ?zzhq ?_; (case zzhq => k_dflt k_mem)) | skip); (try clear lN'); walk_say "TURN ENDS"))) | (((with_reducible show wpAny _ _ (pyIter (Value.ref _)) (fun it s₂ => LoopAtV _ _ _ _ _ _ _ _ _ it s₂) _ _); (rename Fr _ _ _ _ => lF'); (rename News _ _ _ _ => lN'); (with_unfolding_all refine' iter_listUnr (by rfl) lF' lN' ?zzhm ?zzhc ?zzhd ?_; (case zzhm => k_mem); (case zzhc => rfl); (case zzhd => rfl); k_whole; intro i' l1; (try k_lt l1); clear lF' lN'); walk_say "UNROLLED")) | (((with_reducible show wpAny _ _ (call (Value.builtin _) [Value.ref _]) _ _ _); k_dflt (refine' sorted_dict (by rfl) ?zzlo ?zzF ?zzN ?zzm ?zzd ?zzz ?_; (case zzF => k_asm); (case zzN => k_asm); (case zzm => k_mem); (case zzd => assumption); (case zzlo => assumption); (case zzz => omega)); intro D' c' vs' ns' h' tk' F' N' l1 i' e' p' o'; (try simp only [AllLt] at l1); (try dsimp only); (try k_fold); (try k_sweep); walk_say "SORTED DICT")) | ((with_reducible show wpAny _ _ (PySem.setItem (Value.ref _) (Value.int _ _) _) _ _ _); (k_dflt (refine' kda_set (knd := PySem.intKind _ _) ?zzF ?zzN ?zzU ?zzd (intKind_is _ _ _ _) ?zzz ?_; (case zzF => k_asm); (case zzN => k_asm); (case zzU => k_updF); (case zzd => assumption); (case zzz => rw [sizeLine_eq]; omega)); intro h' o' F' N' hd'; (try dsimp only at N'))) | (((with_reducible show wpAny _ _ (call (Value.ref 56) _) _ _ _); k_dflt (refine' Ctr.use ?zzk1 ?zzk2 ?zzk3 ?zzk4 ?zzk5 ?zzkK (reads_c _ _ _ _ _ _ _ _ _ ?zzq1 ?zzq2 ?zzq3) ?zzkd ?zzku ?_; (case zzk1 => k_asm); (case zzk2 => k_asm); (case zzk3 => k_asm); (case zzk4 => k_asm); (case zzk5 => k_asm); (case zzkK => first | exact rfl | assumption); (case zzq1 => k_mem); (case zzq2 => assumption); (case zzq3 => assumption); (case zzkd => ktr_room); (case zzku => ktr_units)); intro r9 n9 h9 tk9 F9 N9 e9; obtain ⟨l9, t9, n8, e8, e7, l8⟩ := e9; subst e7; subst e8; (try simp only [AllLt] at l8); (try dsimp only); (try k_fold); (try k_sweep); walk_say "CALL 56")) | (((with_reducible show wpAny _ _ (call (Value.ref _) _) _ _ _); k_dflt (refine' Ctr.use ?zzk1 ?zzk2 ?zzk3 ?zzk4 ?zzk5 ?zzkK (FoundS.use ?zzq0 ?zzq1 ?zzq2 ?zzq3 ?zzq4 ?zzq5) ?zzkd ?zzku ?_; (case zzk1 => k_asm); (case zzk2 => k_asm); (case zzk3 => k_asm); (case zzk4 => k_asm); (case zzk5 => k_asm); (case zzkK => first | exact rfl | assumption); (case zzq0 => assumption); (case zzq2 => k_mem); (case zzq4 => k_mem); (case zzq3 => assumption); (case zzq5 => assumption); (case zzq1 => (intro p9 hp9; repeat (first | exact hp9 | refine List.Mem.tail _ ?_))); (case zzkd => ktr_room); (case zzku => ktr_units)); intro r9 n9 h9 tk9 F9 N9 e9; obtain ⟨e8, e7⟩ := e9; subst e8; subst e7; (try dsimp only); (try k_fold); (try k_sweep); walk_say "CALL FOUND")) | ((with_reducible show wpAny _ _ (PySem.execs (_ :: _) _) _ _ _); ((with_reducible refine wpAny_execs_cons ?_); (try dsimp only); (try k_fold))) | walk1 | (dsimp only; (first | ((with_reducible show wpAny _ _ (PySem.callWith _ (Value.ref _) _ _ _) _ _ _); (k_dflt (refine' callWith_F ?zzk1 ?_; (case zzk1 => exact FnAt.of (by k_asm) (by k_mem)); k_whole))) | ((with_reducible show wpAny _ _ (PySem.getAttr (Value.ref _) _ _) _ _ _); (k_dflt (refine' get_own ?zzk1 ?zzk2 ?zzk3 ?zzk4 ?zzk5 ?zzk6 ?zzk7 ?zzk8 ?zzk9 ?_; (case zzk1 => k_asm); (case zzk2 => k_asm); (case zzk3 => k_inst); (case zzk4 => k_is); (case zzk5 => k_is); (case zzk6 => k_is); (case zzk7 => k_is); (case zzk8 => first | assumption | k_get); (case zzk9 => k_handed); k_whole))) | ((with_reducible show UnrEnd _ _ _ _ _ _ _); ((rename News _ _ _ _ => lN'); first | (refine' unrEnd_rem (by assumption) lN' ?zzhr ?zzho ?_; (case zzhr => (repeat (first | exact Rem.head | refine Rem.tail ?_))); (case zzho => k_all); (try dsimp only); (first | (refine' And.intro ?zzhq ?_; (case zzhq => k_dflt k_mem)) | skip); (try clear lN'); walk_say "TURN ENDS"))) | (((with_reducible show wpAny _ _ (pyIter (Value.ref _)) (fun it s₂ => LoopAtV _ _ _ _ _ _ _ _ _ it s₂) _ _); (rename Fr _ _ _ _ => lF'); (rename News _ _ _ _ => lN'); (with_unfolding_all refine' iter_listUnr (by rfl) lF' lN' ?zzhm ?zzhc ?zzhd ?_; (case zzhm => k_mem); (case zzhc => rfl); (case zzhd => rfl); k_whole; intro i' l1; (try k_lt l1); clear lF' lN'); walk_say "UNROLLED")) | (((with_reducible show wpAny _ _ (call (Value.builtin _) [Value.ref _]) _ _ _); k_dflt (refine' sorted_dict (by rfl) ?zzlo ?zzF ?zzN ?zzm ?zzd ?zzz ?_; (case zzF => k_asm); (case zzN => k_asm); (case zzm => k_mem); (case zzd => assumption); (case zzlo => assumption); (case zzz => omega)); intro D' c' vs' ns' h' tk' F' N' l1 i' e' p' o'; (try simp only [AllLt] at l1); (try dsimp only); (try k_fold); (try k_sweep); walk_say "SORTED DICT")) | ((with_reducible show wpAny _ _ (PySem.setItem (Value.ref _) (Value.int _ _) _) _ _ _); (k_dflt (refine' kda_set (knd := PySem.intKind _ _) ?zzF ?zzN ?zzU ?zzd (intKind_is _ _ _ _) ?zzz ?_; (case zzF => k_asm); (case zzN => k_asm); (case zzU => k_updF); (case zzd => assumption); (case zzz => rw [sizeLine_eq]; omega)); intro h' o' F' N' hd'; (try dsimp only at N'))) | (((with_reducible show wpAny _ _ (call (Value.ref 56) _) _ _ _); k_dflt (refine' Ctr.use ?zzk1 ?zzk2 ?zzk3 ?zzk4 ?zzk5 ?zzkK (reads_c _ _ _ _ _ _ _ _ _ ?zzq1 ?zzq2 ?zzq3) ?zzkd ?zzku ?_; (case zzk1 => k_asm); (case zzk2 => k_asm); (case zzk3 => k_asm); (case zzk4 => k_asm); (case zzk5 => k_asm); (case zzkK => first | exact rfl | assumption); (case zzq1 => k_mem); (case zzq2 => assumption); (case zzq3 => assumption); (case zzkd => ktr_room); (case zzku => ktr_units)); intro r9 n9 h9 tk9 F9 N9 e9; obtain ⟨l9, t9, n8, e8, e7, l8⟩ := e9; subst e7; subst e8; (try simp only [AllLt] at l8); (try dsimp only); (try k_fold); (try k_sweep); walk_say "CALL 56")) | (((with_reducible show wpAny _ _ (call (Value.ref _) _) _ _ _); k_dflt (refine' Ctr.use ?zzk1 ?zzk2 ?zzk3 ?zzk4 ?zzk5 ?zzkK (FoundS.use ?zzq0 ?zzq1 ?zzq2 ?zzq3 ?zzq4 ?zzq5) ?zzkd ?zzku ?_; (case zzk1 => k_asm); (case zzk2 => k_asm); (case zzk3 => k_asm); (case zzk4 => k_asm); (case zzk5 => k_asm); (case zzkK => first | exact rfl | assumption); (case zzq0 => assumption); (case zzq2 => k_mem); (case zzq4 => k_mem); (case zzq3 => assumption); (case zzq5 => assumption); (case zzq1 => (intro p9 hp9; repeat (first | exact hp9 | refine List.Mem.tail _ ?_))); (case zzkd => ktr_room); (case zzku => ktr_units)); intro r9 n9 h9 tk9 F9 N9 e9; obtain ⟨e8, e7⟩ := e9; subst e8; subst e7; (try dsimp only); (try k_fold); (try k_sweep); walk_say "CALL FOUND")) | ((with_reducible show wpAny _ _ (PySem.execs (_ :: _) _) _ _ _); ((with_reducible refine wpAny_execs_cons ?_); (try dsimp only); (try k_fold))) | walk1)) | (leave1; walk_say "STEP leave1"; try dsimp only) | fail "no step")
    (rename News _ _ _ _ => lN)
    refine' beg_call (by k_asm) (by k_asm) (by k_asm) lN (by k_asm) (by first | exact rfl | assumption) hS hth hw hes off hne hko hkm (by assumption) (by assumption) (by assumption) (by assumption) (by assumption) (by assumption) (by assumption) (by assumption) ?l2 ?kd ?ku ?k
    case l2 => refine ⟨?_, ?_, ?_⟩ <;> (show @LT.lt Nat _ _ _; omega)
    case kd => ktr_room
    case ku => ktr_units
    case k =>
      intro r9 n9 h9 tk9 F9 N9 e9
      have e8 : r9 = .none := by obtain ⟨_, _, _, _, _, _, _, _, _, _, _, _, _, _, _, h, _⟩ := e9; exact h
      subst e8
      repeat' (first | (k_unfold; (try dsimp only)) | (k_end; wrow_close) | ((with_reducible show wpAny _ _ (PySem.callWith _ (Value.ref _) _ _ _) _ _ _); (k_dflt (refine' callWith_F ?zzk1 ?_; (case zzk1 => exact FnAt.of (by k_asm) (by k_mem)); k_whole))) | ((with_reducible show wpAny _ _ (PySem.getAttr (Value.ref _) _ _) _ _ _); (k_dflt (refine' get_own ?zzk1 ?zzk2 ?zzk3 ?zzk4 ?zzk5 ?zzk6 ?zzk7 ?zzk8 ?zzk9 ?_; (case zzk1 => k_asm); (case zzk2 => k_asm); (case zzk3 => k_inst); (case zzk4 => k_is); (case zzk5 => k_is); (case zzk6 => k_is); (case zzk7 => k_is); (case zzk8 => first | assumption | k_get); (case zzk9 => k_handed); k_whole))) | ((with_reducible show UnrEnd _ _ _ _ _ _ _); ((rename News _ _ _ _ => lN'); first | (refine' unrEnd_rem (by assumption) lN' ?zzhr ?zzho ?_; (case zzhr => (repeat (first | exact Rem.head | refine Rem.tail ?_))); (case zzho => k_all); (try dsimp only); (first | (refine' And.intro ?zzhq ?_; (case zzhq => k_dflt k_mem)) | skip); (try clear lN'); walk_say "TURN ENDS"))) | (((with_reducible show wpAny _ _ (pyIter (Value.ref _)) (fun it s₂ => LoopAtV _ _ _ _ _ _ _ _ _ it s₂) _ _); (rename Fr _ _ _ _ => lF'); (rename News _ _ _ _ => lN'); (with_unfolding_all refine' iter_listUnr (by rfl) lF' lN' ?zzhm ?zzhc ?zzhd ?_; (case zzhm => k_mem); (case zzhc => rfl); (case zzhd => rfl); k_whole; intro i' l1; (try k_lt l1); clear lF' lN'); walk_say "UNROLLED")) | (((with_reducible show wpAny _ _ (call (Value.builtin _) [Value.ref _]) _ _ _); k_dflt (refine' sorted_dict (by rfl) ?zzlo ?zzF ?zzN ?zzm ?zzd ?zzz ?_; (case zzF => k_asm); (case zzN => k_asm); (case zzm => k_mem); (case zzd => assumption); (case zzlo => assumption); (case zzz => omega)); intro D' c' vs' ns' h' tk' F' N' l1 i' e' p' o'; (try simp only [AllLt] at l1); (try dsimp only); (try k_fold); (try k_sweep); walk_say "SORTED DICT")) | ((with_reducible show wpAny _ _ (PySem.setItem (Value.ref _) (Value.int _ _) _) _ _ _); (k_dflt (refine' kda_set (knd := PySem.intKind _ _) ?zzF ?zzN ?zzU ?zzd (intKind_is _ _ _ _) ?zzz ?_; (case zzF => k_asm); (case zzN => k_asm); (case zzU => k_updF); (case zzd => assumption); (case zzz => rw [sizeLine_eq]; omega)); intro h' o' F' N' hd'; (try dsimp only at N'))) | (((with_reducible show wpAny _ _ (call (Value.ref 56) _) _ _ _); k_dflt (refine' Ctr.use ?zzk1 ?zzk2 ?zzk3 ?zzk4 ?zzk5 ?zzkK (reads_c _ _ _ _ _ _ _ _ _ ?zzq1 ?zzq2 ?zzq3) ?zzkd ?zzku ?_; (case zzk1 => k_asm); (case zzk2 => k_asm); (case zzk3 => k_asm); (case zzk4 => k_asm); (case zzk5 => k_asm); (case zzkK => first | exact rfl | assumption); (case zzq1 => k_mem); (case zzq2 => assumption); (case zzq3 => assumption); (case zzkd => ktr_room); (case zzku => ktr_units)); intro r9 n9 h9 tk9 F9 N9 e9; obtain ⟨l9, t9, n8, e8, e7, l8⟩ := e9; subst e7; subst e8; (try simp only [AllLt] at l8); (try dsimp only); (try k_fold); (try k_sweep); walk_say "CALL 56")) | (((with_reducible show wpAny _ _ (call (Value.ref _) _) _ _ _); k_dflt (refine' Ctr.use ?zzk1 ?zzk2 ?zzk3 ?zzk4 ?zzk5 ?zzkK (FoundS.use ?zzq0 ?zzq1 ?zzq2 ?zzq3 ?zzq4 ?zzq5) ?zzkd ?zzku ?_; (case zzk1 => k_asm); (case zzk2 => k_asm); (case zzk3 => k_asm); (case zzk4 => k_asm); (case zzk5 => k_asm); (case zzkK => first | exact rfl | assumption); (case zzq0 => assumption); (case zzq2 => k_mem); (case zzq4 => k_mem); (case zzq3 => assumption); (case zzq5 => assumption); (case zzq1 => (intro p9 hp9; repeat (first | exact hp9 | refine List.Mem.tail _ ?_))); (case zzkd => ktr_room); (case zzku => ktr_units)); intro r9 n9 h9 tk9 F9 N9 e9; obtain ⟨e8, e7⟩ := e9; subst e8; subst e7; (try dsimp only); (try k_fold); (try k_sweep); walk_say "CALL FOUND")) | ((with_reducible show wpAny _ _ (PySem.execs (_ :: _) _) _ _ _); ((with_reducible refine wpAny_execs_cons ?_); (try dsimp only); (try k_fold))) | walk1 | (dsimp only; (first | ((with_reducible show wpAny _ _ (PySem.callWith _ (Value.ref _) _ _ _) _ _ _); (k_dflt (refine' callWith_F ?zzk1 ?_; (case zzk1 => exact FnAt.of (by k_asm) (by k_mem)); k_whole))) | ((with_reducible show wpAny _ _ (PySem.getAttr (Value.ref _) _ _) _ _ _); (k_dflt (refine' get_own ?zzk1 ?zzk2 ?zzk3 ?zzk4 ?zzk5 ?zzk6 ?zzk7 ?zzk8 ?zzk9 ?_; (case zzk1 => k_asm); (case zzk2 => k_asm); (case zzk3 => k_inst); (case zzk4 => k_is); (case zzk5 => k_is); (case zzk6 => k_is); (case zzk7 => k_is); (case zzk8 => first | assumption | k_get); (case zzk9 => k_handed); k_whole))) | ((with_reducible show UnrEnd _ _ _ _ _ _ _); ((rename News _ _ _ _ => lN'); first | (refine' unrEnd_rem (by assumption) lN' ?zzhr ?zzho ?_; (case zzhr => (repeat (first | exact Rem.head | refine Rem.tail ?_))); (case zzho => k_all); (try dsimp only); (first | (refine' And.intro ?zzhq ?_; (case zzhq => k_dflt k_mem)) | skip); (try clear lN'); walk_say "TURN ENDS"))) | (((with_reducible show wpAny _ _ (pyIter (Value.ref _)) (fun it s₂ => LoopAtV _ _ _ _ _ _ _ _ _ it s₂) _ _); (rename Fr _ _ _ _ => lF'); (rename News _ _ _ _ => lN'); (with_unfolding_all refine' iter_listUnr (by rfl) lF' lN' ?zzhm ?zzhc ?zzhd ?_; (case zzhm => k_mem); (case zzhc => rfl); (case zzhd => rfl); k_whole; intro i' l1; (try k_lt l1); clear lF' lN'); walk_say "UNROLLED")) | (((with_reducible show wpAny _ _ (call (Value.builtin _) [Value.ref _]) _ _ _); k_dflt (refine' sorted_dict (by rfl) ?zzlo ?zzF ?zzN ?zzm ?zzd ?zzz ?_; (case zzF => k_asm); (case zzN => k_asm); (case zzm => k_mem); (case zzd => assumption); (case zzlo => assumption); (case zzz => omega)); intro D' c' vs' ns' h' tk' F' N' l1 i' e' p' o'; (try simp only [AllLt] at l1); (try dsimp only); (try k_fold); (try k_sweep); walk_say "SORTED DICT")) | ((with_reducible show wpAny _ _ (PySem.setItem (Value.ref _) (Value.int _ _) _) _ _ _); (k_dflt (refine' kda_set (knd := PySem.intKind _ _) ?zzF ?zzN ?zzU ?zzd (intKind_is _ _ _ _) ?zzz ?_; (case zzF => k_asm); (case zzN => k_asm); (case zzU => k_updF); (case zzd => assumption); (case zzz => rw [sizeLine_eq]; omega)); intro h' o' F' N' hd'; (try dsimp only at N'))) | (((with_reducible show wpAny _ _ (call (Value.ref 56) _) _ _ _); k_dflt (refine' Ctr.use ?zzk1 ?zzk2 ?zzk3 ?zzk4 ?zzk5 ?zzkK (reads_c _ _ _ _ _ _ _ _ _ ?zzq1 ?zzq2 ?zzq3) ?zzkd ?zzku ?_; (case zzk1 => k_asm); (case zzk2 => k_asm); (case zzk3 => k_asm); (case zzk4 => k_asm); (case zzk5 => k_asm); (case zzkK => first | exact rfl | assumption); (case zzq1 => k_mem); (case zzq2 => assumption); (case zzq3 => assumption); (case zzkd => ktr_room); (case zzku => ktr_units)); intro r9 n9 h9 tk9 F9 N9 e9; obtain ⟨l9, t9, n8, e8, e7, l8⟩ := e9; subst e7; subst e8; (try simp only [AllLt] at l8); (try dsimp only); (try k_fold); (try k_sweep); walk_say "CALL 56")) | (((with_reducible show wpAny _ _ (call (Value.ref _) _) _ _ _); k_dflt (refine' Ctr.use ?zzk1 ?zzk2 ?zzk3 ?zzk4 ?zzk5 ?zzkK (FoundS.use ?zzq0 ?zzq1 ?zzq2 ?zzq3 ?zzq4 ?zzq5) ?zzkd ?zzku ?_; (case zzk1 => k_asm); (case zzk2 => k_asm); (case zzk3 => k_asm); (case zzk4 => k_asm); (case zzk5 => k_asm); (case zzkK => first | exact rfl | assumption); (case zzq0 => assumption); (case zzq2 => k_mem); (case zzq4 => k_mem); (case zzq3 => assumption); (case zzq5 => assumption); (case zzq1 => (intro p9 hp9; repeat (first | exact hp9 | refine List.Mem.tail _ ?_))); (case zzkd => ktr_room); (case zzku => ktr_units)); intro r9 n9 h9 tk9 F9 N9 e9; obtain ⟨e8, e7⟩ := e9; subst e8; subst e7; (try dsimp only); (try k_fold); (try k_sweep); walk_say "CALL FOUND")) | ((with_reducible show wpAny _ _ (PySem.execs (_ :: _) _) _ _ _); ((with_reducible refine wpAny_execs_cons ?_); (try dsimp only); (try k_fold))) | walk1)) | (leave1; walk_say "STEP leave1"; try dsimp only) | fail "no step")
      exact hret _ _ _ _ (by k_asm) (by k_asm) e9
end
section
open PySem PySem.W PyProof.Rows PySem.Calls PyProof.V
theorem freshTruth : True := by
  w_top off
  trivial
set_option maxRecDepth 100000 in
set_option maxHeartbeats 8000000 in
theorem truth_c (w : World) (news : Led) (x : Addr) (i1 i2 i3 : Int) (t1 t2 t3 : Tok) (n : Nat) (hx : (x, vecO i1 i2 i3 t1 t2 t3 n) ∈ news) (w0 : 1 ≤ i1) (w1 : i1 ≤ 3) (a0 : 0 ≤ i2) (a1 : i2 < 8) (b0 : 0 ≤ i3) (b1 : i3 < 8) :
    Ctr w 35 [.ref x] 3 96 news (fun r news' => news' = news ∧ ∃ v t, r = .int v t ∧ (v = 1 ↔ Builtin.bitAnd i2 (Builtin.bitXor i3 (1 * 2 ^ i1.toNat - 1)) ≠ 0)) := by
    intro p loose mean mg mb dp un gd cn cs a ccd cl outer A₀ base h₀ L m s Q E B F X N T hk hd hu hret
    have hM := kdMark
    refine wpAny_call ?_
    k_dflt ktr_enter
    repeat' (first | (k_unfold; (try dsimp only)) | (k_end; wrow_close) | ((with_reducible show wpAny _ _ (PySem.binaryOp PySem.Operator.LShift (Value.int _ _) (Value.int _ _)) _ _ _); refine lshift_int_small (by omega) (by omega) (by decide) ?_) | walk1 | (dsimp only; (first | ((with_reducible show wpAny _ _ (PySem.binaryOp PySem.Operator.LShift (Value.int _ _) (Value.int _ _)) _ _ _); refine lshift_int_small (by omega) (by omega) (by decide) ?_) | walk1)) | (leave1; walk_say "STEP leave1"; try dsimp only) | fail "no step")
    all_goals (refine' hret _ _ _ _ (by k_asm) (by k_asm) ⟨rfl, _, _, rfl, ?_⟩)
    all_goals (first | exact ⟨fun _ => by assumption, fun _ => rfl⟩ | exact ⟨fun q => absurd q (by decide), fun q => absurd (by assumption) q⟩)
end
section
open PySem PySem.W PyProof.Rows PySem.Calls PyProof.V
theorem freshCome : True := by
  w_top off
  trivial

def comeB (evs : List Ev) (a b : Int → V3) : Bool := evs.any fun e => !e.ev && cameB e.so (a e.key) (b e.key)
def lastsAt (evs : List Ev) (k0 k1 : List (Int × Value)) (i : Nat) : List Value := (evs.take i).map (lastV k1) ++ (evs.drop i).map (lastV k0)
theorem lastsAt_len (evs : List Ev) (k0 k1 : List (Int × Value)) {i : Nat} (h : i ≤ evs.length) : (lastsAt evs k0 k1 i).length = evs.length := by
  unfold lastsAt; simp; omega
theorem lastsAt_get {evs : List Ev} (k0 k1 : List (Int × Value)) {i : Nat} {e : Ev} (he : evs[i]? = some e) : (lastsAt evs k0 k1 i)[i]? = some (lastV k0 e) := by
  have hi : i < evs.length := (List.getElem?_eq_some_iff.mp he).1
  unfold lastsAt
  rw [List.getElem?_append_right (by simp; omega)]
  simp [Nat.min_eq_left (Nat.le_of_lt hi), List.getElem?_map, he]
theorem lastsAt_set {evs : List Ev} (k0 k1 : List (Int × Value)) {i : Nat} {e : Ev} (he : evs[i]? = some e) : (lastsAt evs k0 k1 i).set i (lastV k1 e) = lastsAt evs k0 k1 (i + 1) := by
  have hi : i < evs.length := (List.getElem?_eq_some_iff.mp he).1
  have e2 : evs[i] = e := by rw [List.getElem?_eq_getElem hi] at he; exact Option.some.inj he
  unfold lastsAt
  have e3 : i - ((evs.take i).map (lastV k1)).length = 0 := by rw [List.length_map, List.length_take]; omega
  rw [List.set_append_right _ _ (by simp; omega), List.drop_eq_getElem_cons hi, List.take_add_one, he, e3, List.map_cons, List.set_cons_zero, List.map_append, List.append_assoc]
  rfl
theorem lastsAt_ev {evs : List Ev} (k0 k1 : List (Int × Value)) {i : Nat} {e : Ev} (he : evs[i]? = some e) (hv : e.ev = true) : lastsAt evs k0 k1 i = lastsAt evs k0 k1 (i + 1) := by
  have hi : i < evs.length := (List.getElem?_eq_some_iff.mp he).1
  have e2 : evs[i] = e := by rw [List.getElem?_eq_getElem hi] at he; exact Option.some.inj he
  unfold lastsAt
  rw [List.drop_eq_getElem_cons hi, List.take_add_one, he, e2]
  simp [lastV, hv]
theorem comeB_step {evs : List Ev} (a b : Int → V3) {i : Nat} {e : Ev} (he : evs[i]? = some e) : comeB (evs.take (i + 1)) a b = (comeB (evs.take i) a b || (!e.ev && cameB e.so (a e.key) (b e.key))) := by
  unfold comeB
  rw [List.take_add_one, he]
  simp
def ComeJ (evs : List Ev) (k0 k1 : List (Int × Value)) (la : Addr) (rest : Led) (i : Nat) (nx : Led) : Prop := ∃ n', nx = (la, listOf (lastsAt evs k0 k1 i).toArray n') :: rest
theorem come_fin {evs : List Ev} {k0 k1 : List (Int × Value)} {la : Addr} {rest own r2 full : Led} {i n2 : Nat} {o1 : Obj} {hvf : Nat → Value} {m₀ m' : Str → Option Value} {g h' : Heap} {L : Addr} {s : Shared} {tk : Nat} {ls : List Value}
    (F : Fr g L h' m') (N : News g L h' full) (hmh : m' "hit" = some (hvf (i + 1))) (hm : ∀ z : Str, z ≠ "hit" → (["place", "edge", "e", "new"] : List Str).contains z = false → m' z = m₀ z)
    (hown : OwnOff own (((la, o1) :: rest).map (·.1))) (hr2 : r2 = rest ++ own) (hls : ls = lastsAt evs k0 k1 (i + 1)) (sub : ∀ p ∈ (la, listOf ls.toArray n2) :: r2, p ∈ full) :
    InvEndG g L (JH ["place", "edge", "e", "new"] "hit" hvf m₀ (ComeJ evs k0 k1 la rest) (i + 1)) own s { s with heap := h', toks := tk } := by
  subst hls
  subst hr2
  refine InvEndG.intro F N ⟨⟨n2, rfl⟩, hmh, hm⟩ hown ?_ ?_
  · intro p hp
    refine sub p ?_
    simp only [List.mem_cons, List.mem_append] at hp ⊢
    rcases hp with h | h <;> simp only [h, true_or, or_true]
  · intro p hp
    refine sub p ?_
    simp only [List.mem_cons, List.mem_append, hp, or_true]
set_option maxRecDepth 100000 in
set_option maxHeartbeats 8000000 in
theorem come_c (w : World) (nk : Int) (mx th dt evl hl sl wt la kl : Addr) (ho : Obj) (k0 k1 : List (Int × Value)) (v0 v1 : Int → V3) (es : List DictEntry) (nT n : Nat) (tw : Tok) (rest : Led) (evs : List Ev)
    (hM : Mach w mx hl sl rest) (hth : (th, instObj 94 dt) ∈ rest) (hdt : (dt, dictOf es nT) ∈ rest) (hw : getL "wait" es = some (some (Value.ref wt))) (hwt : (wt, tupOf [.str "await" tw, .ref kl, .ref evl, .ref la] 0) ∈ rest)
    (hho : (hl, ho) ∈ rest) (hd0 : ho.IsDictOf (intKind prg w) k1) (hev : EvsAt rest evl evs) (hok : ∀ e ∈ evs, EvOk nk e) (hlen : evs.length ≤ 4) (hh0 : HeldOk nk k0 v0 rest) (hh1 : HeldOk nk k1 v1 rest) (off : OwnOff rest [la]) :
    Ctr w 70 [.ref mx, .ref th] 8 256 ((la, listOf (evs.map (lastV k0)).toArray n) :: rest) (fun r news' => ∃ n', r = .bool (comeB evs v0 v1) ∧ news' = (la, listOf (evs.map (lastV k1)).toArray n') :: rest) := by
    obtain ⟨vsE, nE, hevl, hD⟩ := hev
    obtain ⟨dx, esM, nM, f1, f2, fd1, fd2, oc1, oc2, od1, od2, sl1, sl2, m1, m2, m3, m4, m5, m6, hF, hS⟩ := hM
    have hlE : vsE.length = evs.length := by rw [hD.length, List.length_map]
    intro p loose mean mg mb dp un gd cn cs a ccd cl outer A₀ base h₀ L m s Q E B F X N T hk hd hu hret
    have hM := kdMark
    refine wpAny_call ?_
    k_dflt ktr_enter
    repeat' ((fail_if_success (with_reducible show wpAny _ _ (PySem.pyIter (Value.ref _)) _ _ _)); (first | (k_unfold; (try dsimp only)) | (k_end; wrow_close) | ((with_reducible show wpAny _ _ (PySem.setItem (Value.ref _) (Value.int _ _) _) _ _ _); (k_dflt (refine' list_set ?zzF ?zzN ?zzU ?zzh0 ?zzh1 ?zzh2 ?_; (case zzF => k_asm); (case zzN => k_asm); (case zzU => k_upd); (case zzh0 => omega); (case zzh1 => omega); (case zzh2 => omega)); intro h' F' N'; (try dsimp only at N'))) | (((with_reducible show wpAny _ _ (subscriptTail _ _ (Value.ref _) (Value.int _ _)) _ _ _); k_dflt (refine' list_at ?zzN ?zzm ?zzh0 ?zzh1 ?zze ?_ ?zzhs ?zzhg; (case zzN => k_asm); (case zzm => k_mem); (case zze => assumption); (case zzh0 => omega); (case zzh1 => omega); (case zzhs => with_unfolding_all rfl); (case zzhg => (intro _; with_unfolding_all rfl)); k_whole))) | (((with_reducible show wpAny _ _ (call (Value.ref 63) _) _ _ _); k_dflt (refine' Ctr.use ?zzk1 ?zzk2 ?zzk3 ?zzk4 ?zzk5 ?zzkK (edge_c _ _ _ _ ?zzq0 _ _ _ _ _ _ _ _ ?zzq1 ?zza0 ?zza1 ?zzb0 ?zzb1 _ _ _ _ _ _ _ _ ?zzq2 ?zzc0 ?zzc1 ?zzd0 ?zzd1) ?zzkd ?zzku ?_; (case zzk1 => k_asm); (case zzk2 => k_asm); (case zzk3 => k_asm); (case zzk4 => k_asm); (case zzk5 => k_asm); (case zzkK => first | exact rfl | assumption); (case zzq0 => assumption); (case zzq1 => k_mem); (case zzq2 => k_mem); (case zza0 => assumption); (case zza1 => assumption); (case zzb0 => assumption); (case zzb1 => assumption); (case zzc0 => assumption); (case zzc1 => assumption); (case zzd0 => assumption); (case zzd1 => assumption); (case zzkd => ktr_room); (case zzku => ktr_units)); intro r9 n9 h9 tk9 F9 N9 e9; obtain ⟨e8, e7⟩ := e9; subst e7; subst e8; (try dsimp only); (try k_fold); (try k_sweep); walk_say "CALL 63")) | (((with_reducible show wpAny _ _ (call (Value.ref _) _) _ _ _); k_dflt (refine' Ctr.use ?zzk1 ?zzk2 ?zzk3 ?zzk4 ?zzk5 ?zzkK (FoundS.use ?zzq0 ?zzq1 ?zzq2 ?zzq3 ?zzq4 ?zzq5) ?zzkd ?zzku ?_; (case zzk1 => k_asm); (case zzk2 => k_asm); (case zzk3 => k_asm); (case zzk4 => k_asm); (case zzk5 => k_asm); (case zzkK => first | exact rfl | assumption); (case zzq0 => assumption); (case zzq2 => k_mem); (case zzq4 => k_mem); (case zzq3 => assumption); (case zzq5 => assumption); (case zzq1 => (intro p9 hp9; repeat (first | exact hp9 | refine List.Mem.tail _ ?_))); (case zzkd => ktr_room); (case zzku => ktr_units)); intro r9 n9 h9 tk9 F9 N9 e9; obtain ⟨e8, e7⟩ := e9; subst e8; subst e7; (try dsimp only); (try k_fold); (try k_sweep); walk_say "CALL FOUND")) | ((with_reducible show wpAny _ _ (PySem.callWith _ (Value.ref _) _ _ _) _ _ _); (k_dflt (refine' callWith_F ?zzk1 ?_; (case zzk1 => exact FnAt.of (by k_asm) (by k_mem)); k_whole))) | ((with_reducible show wpAny _ _ (PySem.getAttr (Value.ref _) _ _) _ _ _); (k_dflt (refine' get_own ?zzk1 ?zzk2 ?zzk3 ?zzk4 ?zzk5 ?zzk6 ?zzk7 ?zzk8 ?zzk9 ?_; (case zzk1 => k_asm); (case zzk2 => k_asm); (case zzk3 => k_inst); (case zzk4 => k_is); (case zzk5 => k_is); (case zzk6 => k_is); (case zzk7 => k_is); (case zzk8 => first | assumption | k_get); (case zzk9 => k_handed); k_whole))) | (((with_reducible show wpAny _ _ (call (Value.builtin "len") [Value.ref _]) _ _ _); k_dflt (refine' len_M ?zzN ?zzm ?zzf ?_; (case zzN => k_asm); (case zzm => k_mem); (case zzf => omega); k_whole))) | ((with_reducible show wpAny _ _ (PySem.execs (_ :: _) _) _ _ _); ((with_reducible refine wpAny_execs_cons ?_); (try dsimp only); (try k_fold))) | walk1 | (dsimp only; (first | ((with_reducible show wpAny _ _ (PySem.setItem (Value.ref _) (Value.int _ _) _) _ _ _); (k_dflt (refine' list_set ?zzF ?zzN ?zzU ?zzh0 ?zzh1 ?zzh2 ?_; (case zzF => k_asm); (case zzN => k_asm); (case zzU => k_upd); (case zzh0 => omega); (case zzh1 => omega); (case zzh2 => omega)); intro h' F' N'; (try dsimp only at N'))) | (((with_reducible show wpAny _ _ (subscriptTail _ _ (Value.ref _) (Value.int _ _)) _ _ _); k_dflt (refine' list_at ?zzN ?zzm ?zzh0 ?zzh1 ?zze ?_ ?zzhs ?zzhg; (case zzN => k_asm); (case zzm => k_mem); (case zze => assumption); (case zzh0 => omega); (case zzh1 => omega); (case zzhs => with_unfolding_all rfl); (case zzhg => (intro _; with_unfolding_all rfl)); k_whole))) | (((with_reducible show wpAny _ _ (call (Value.ref 63) _) _ _ _); k_dflt (refine' Ctr.use ?zzk1 ?zzk2 ?zzk3 ?zzk4 ?zzk5 ?zzkK (edge_c _ _ _ _ ?zzq0 _ _ _ _ _ _ _ _ ?zzq1 ?zza0 ?zza1 ?zzb0 ?zzb1 _ _ _ _ _ _ _ _ ?zzq2 ?zzc0 ?zzc1 ?zzd0 ?zzd1) ?zzkd ?zzku ?_; (case zzk1 => k_asm); (case zzk2 => k_asm); (case zzk3 => k_asm); (case zzk4 => k_asm); (case zzk5 => k_asm); (case zzkK => first | exact rfl | assumption); (case zzq0 => assumption); (case zzq1 => k_mem); (case zzq2 => k_mem); (case zza0 => assumption); (case zza1 => assumption); (case zzb0 => assumption); (case zzb1 => assumption); (case zzc0 => assumption); (case zzc1 => assumption); (case zzd0 => assumption); (case zzd1 => assumption); (case zzkd => ktr_room); (case zzku => ktr_units)); intro r9 n9 h9 tk9 F9 N9 e9; obtain ⟨e8, e7⟩ := e9; subst e7; subst e8; (try dsimp only); (try k_fold); (try k_sweep); walk_say "CALL 63")) | (((with_reducible show wpAny _ _ (call (Value.ref _) _) _ _ _); k_dflt (refine' Ctr.use ?zzk1 ?zzk2 ?zzk3 ?zzk4 ?zzk5 ?zzkK (FoundS.use ?zzq0 ?zzq1 ?zzq2 ?zzq3 ?zzq4 ?zzq5) ?zzkd ?zzku ?_; (case zzk1 => k_asm); (case zzk2 => k_asm); (case zzk3 => k_asm); (case zzk4 => k_asm); (case zzk5 => k_asm); (case zzkK => first | exact rfl | assumption); (case zzq0 => assumption); (case zzq2 => k_mem); (case zzq4 => k_mem); (case zzq3 => assumption); (case zzq5 => assumption); (case zzq1 => (intro p9 hp9; repeat (first | exact hp9 | refine List.Mem.tail _ ?_))); (case zzkd => ktr_room); (case zzku => ktr_units)); intro r9 n9 h9 tk9 F9 N9 e9; obtain ⟨e8, e7⟩ := e9; subst e8; subst e7; (try dsimp only); (try k_fold); (try k_sweep); walk_say "CALL FOUND")) | ((with_reducible show wpAny _ _ (PySem.callWith _ (Value.ref _) _ _ _) _ _ _); (k_dflt (refine' callWith_F ?zzk1 ?_; (case zzk1 => exact FnAt.of (by k_asm) (by k_mem)); k_whole))) | ((with_reducible show wpAny _ _ (PySem.getAttr (Value.ref _) _ _) _ _ _); (k_dflt (refine' get_own ?zzk1 ?zzk2 ?zzk3 ?zzk4 ?zzk5 ?zzk6 ?zzk7 ?zzk8 ?zzk9 ?_; (case zzk1 => k_asm); (case zzk2 => k_asm); (case zzk3 => k_inst); (case zzk4 => k_is); (case zzk5 => k_is); (case zzk6 => k_is); (case zzk7 => k_is); (case zzk8 => first | assumption | k_get); (case zzk9 => k_handed); k_whole))) | (((with_reducible show wpAny _ _ (call (Value.builtin "len") [Value.ref _]) _ _ _); k_dflt (refine' len_M ?zzN ?zzm ?zzf ?_; (case zzN => k_asm); (case zzm => k_mem); (case zzf => omega); k_whole))) | ((with_reducible show wpAny _ _ (PySem.execs (_ :: _) _) _ _ _); ((with_reducible refine wpAny_execs_cons ?_); (try dsimp only); (try k_fold))) | walk1)) | (leave1; walk_say "STEP leave1"; try dsimp only)))
    (rename Fr _ _ _ _ => lF)
    (rename News _ _ _ _ => lN)
    refine iter_rangeH (n := vsE.length) ["place", "edge", "e", "new"] "hit" (fun i => .bool (comeB (evs.take i) v0 v1)) (ComeJ evs k0 k1 la rest) (by rfl) (by assumption) ?small ?size lF lN ⟨_, rfl⟩ rfl ?turn ?done
    case small => exact small_one (by decide) (by decide) (by omega) (by omega)
    case size => exact rangeSize_nat _ _
    case turn =>
      intro i ti u nx h tk own hi hown ⟨n2, enx⟩ F1 N1
      subst enx
      obtain ⟨e, he⟩ : ∃ e, evs[i]? = some e := ⟨evs[i]'(by omega), List.getElem?_eq_getElem (by omega)⟩
      obtain ⟨ve, hv⟩ : ∃ e, vsE[Int.toNat (i : Int)]? = some e := ⟨vsE[i]'hi, by rw [Int.toNat_natCast]; exact List.getElem?_eq_getElem hi⟩
      obtain ⟨e', he', hDe⟩ := evs_get hD (by rw [Int.toNat_natCast] at hv; exact hv)
      rw [he] at he'
      cases he'
      obtain ⟨x, y, t1, t2, t3, t4, n3, n4, rfl, hx, hy⟩ := ev_open hDe
      have hEv := hok e (List.mem_of_getElem? he)
      have hgo : (lastsAt evs k0 k1 i)[Int.toNat (i : Int)]? = some (lastV k0 e) := by rw [Int.toNat_natCast]; exact lastsAt_get k0 k1 he
      have hgl := lastsAt_len evs k0 k1 (i := i) (by omega)
      simp only [List.cons_append] at N1
      have hoff2 : OwnOff (rest ++ own) [la] := by
        intro p hp b hb
        rcases List.mem_append.mp hp with h | h
        · exact off p h b hb
        · exact hown p h b (by simp at hb; simp [hb])
      obtain ⟨r2, hr2⟩ : ∃ r2, r2 = rest ++ own := ⟨_, rfl⟩
      rw [← hr2] at N1 hoff2
      have hsub : ∀ p ∈ rest, p ∈ r2 := fun p hp => by rw [hr2]; exact List.mem_append.mpr (.inl hp)
      have hsub2 : ∀ p ∈ own, p ∈ r2 := fun p hp => by rw [hr2]; exact List.mem_append.mpr (.inr hp)
      replace hx := hsub _ hx
      replace hy := hsub _ hy
      replace m1 := hsub _ m1
      replace m2 := hsub _ m2
      replace m5 := hsub _ m5
      replace m6 := hsub _ m6
      replace hho := hsub _ hho
      replace hevl := hsub _ hevl
      replace hwt := hsub _ hwt
      replace hF := hF.mono hsub
      have so := hEv.so
      clear lN lF N F
      cases hev : e.ev with
      | true =>
        simp only [evTag, hev, if_true] at hy
        repeat' (first | (k_unfold; (try dsimp only)) | (k_end; wrow_close) | ((with_reducible show wpAny _ _ (PySem.setItem (Value.ref _) (Value.int _ _) _) _ _ _); (k_dflt (refine' list_set ?zzF ?zzN ?zzU ?zzh0 ?zzh1 ?zzh2 ?_; (case zzF => k_asm); (case zzN => k_asm); (case zzU => k_upd); (case zzh0 => omega); (case zzh1 => omega); (case zzh2 => omega)); intro h' F' N'; (try dsimp only at N'))) | (((with_reducible show wpAny _ _ (subscriptTail _ _ (Value.ref _) (Value.int _ _)) _ _ _); k_dflt (refine' list_at ?zzN ?zzm ?zzh0 ?zzh1 ?zze ?_ ?zzhs ?zzhg; (case zzN => k_asm); (case zzm => k_mem); (case zze => assumption); (case zzh0 => omega); (case zzh1 => omega); (case zzhs => with_unfolding_all rfl); (case zzhg => (intro _; with_unfolding_all rfl)); k_whole))) | (((with_reducible show wpAny _ _ (call (Value.ref 63) _) _ _ _); k_dflt (refine' Ctr.use ?zzk1 ?zzk2 ?zzk3 ?zzk4 ?zzk5 ?zzkK (edge_c _ _ _ _ ?zzq0 _ _ _ _ _ _ _ _ ?zzq1 ?zza0 ?zza1 ?zzb0 ?zzb1 _ _ _ _ _ _ _ _ ?zzq2 ?zzc0 ?zzc1 ?zzd0 ?zzd1) ?zzkd ?zzku ?_; (case zzk1 => k_asm); (case zzk2 => k_asm); (case zzk3 => k_asm); (case zzk4 => k_asm); (case zzk5 => k_asm); (case zzkK => first | exact rfl | assumption); (case zzq0 => assumption); (case zzq1 => k_mem); (case zzq2 => k_mem); (case zza0 => assumption); (case zza1 => assumption); (case zzb0 => assumption); (case zzb1 => assumption); (case zzc0 => assumption); (case zzc1 => assumption); (case zzd0 => assumption); (case zzd1 => assumption); (case zzkd => ktr_room); (case zzku => ktr_units)); intro r9 n9 h9 tk9 F9 N9 e9; obtain ⟨e8, e7⟩ := e9; subst e7; subst e8; (try dsimp only); (try k_fold); (try k_sweep); walk_say "CALL 63")) | (((with_reducible show wpAny _ _ (call (Value.ref _) _) _ _ _); k_dflt (refine' Ctr.use ?zzk1 ?zzk2 ?zzk3 ?zzk4 ?zzk5 ?zzkK (FoundS.use ?zzq0 ?zzq1 ?zzq2 ?zzq3 ?zzq4 ?zzq5) ?zzkd ?zzku ?_; (case zzk1 => k_asm); (case zzk2 => k_asm); (case zzk3 => k_asm); (case zzk4 => k_asm); (case zzk5 => k_asm); (case zzkK => first | exact rfl | assumption); (case zzq0 => assumption); (case zzq2 => k_mem); (case zzq4 => k_mem); (case zzq3 => assumption); (case zzq5 => assumption); (case zzq1 => (intro p9 hp9; repeat (first | exact hp9 | refine List.Mem.tail _ ?_))); (case zzkd => ktr_room); (case zzku => ktr_units)); intro r9 n9 h9 tk9 F9 N9 e9; obtain ⟨e8, e7⟩ := e9; subst e8; subst e7; (try dsimp only); (try k_fold); (try k_sweep); walk_say "CALL FOUND")) | ((with_reducible show wpAny _ _ (PySem.callWith _ (Value.ref _) _ _ _) _ _ _); (k_dflt (refine' callWith_F ?zzk1 ?_; (case zzk1 => exact FnAt.of (by k_asm) (by k_mem)); k_whole))) | ((with_reducible show wpAny _ _ (PySem.getAttr (Value.ref _) _ _) _ _ _); (k_dflt (refine' get_own ?zzk1 ?zzk2 ?zzk3 ?zzk4 ?zzk5 ?zzk6 ?zzk7 ?zzk8 ?zzk9 ?_; (case zzk1 => k_asm); (case zzk2 => k_asm); (case zzk3 => k_inst); (case zzk4 => k_is); (case zzk5 => k_is); (case zzk6 => k_is); (case zzk7 => k_is); (case zzk8 => first | assumption | k_get); (case zzk9 => k_handed); k_whole))) | (((with_reducible show wpAny _ _ (call (Value.builtin "len") [Value.ref _]) _ _ _); k_dflt (refine' len_M ?zzN ?zzm ?zzf ?_; (case zzN => k_asm); (case zzm => k_mem); (case zzf => omega); k_whole))) | ((with_reducible show wpAny _ _ (PySem.execs (_ :: _) _) _ _ _); ((with_reducible refine wpAny_execs_cons ?_); (try dsimp only); (try k_fold))) | walk1 | (dsimp only; (first | ((with_reducible show wpAny _ _ (PySem.setItem (Value.ref _) (Value.int _ _) _) _ _ _); (k_dflt (refine' list_set ?zzF ?zzN ?zzU ?zzh0 ?zzh1 ?zzh2 ?_; (case zzF => k_asm); (case zzN => k_asm); (case zzU => k_upd); (case zzh0 => omega); (case zzh1 => omega); (case zzh2 => omega)); intro h' F' N'; (try dsimp only at N'))) | (((with_reducible show wpAny _ _ (subscriptTail _ _ (Value.ref _) (Value.int _ _)) _ _ _); k_dflt (refine' list_at ?zzN ?zzm ?zzh0 ?zzh1 ?zze ?_ ?zzhs ?zzhg; (case zzN => k_asm); (case zzm => k_mem); (case zze => assumption); (case zzh0 => omega); (case zzh1 => omega); (case zzhs => with_unfolding_all rfl); (case zzhg => (intro _; with_unfolding_all rfl)); k_whole))) | (((with_reducible show wpAny _ _ (call (Value.ref 63) _) _ _ _); k_dflt (refine' Ctr.use ?zzk1 ?zzk2 ?zzk3 ?zzk4 ?zzk5 ?zzkK (edge_c _ _ _ _ ?zzq0 _ _ _ _ _ _ _ _ ?zzq1 ?zza0 ?zza1 ?zzb0 ?zzb1 _ _ _ _ _ _ _ _ ?zzq2 ?zzc0 ?zzc1 ?zzd0 ?zzd1) ?zzkd ?zzku ?_; (case zzk1 => k_asm); (case zzk2 => k_asm); (case zzk3 => k_asm); (case zzk4 => k_asm); (case zzk5 => k_asm); (case zzkK => first | exact rfl | assumption); (case zzq0 => assumption); (case zzq1 => k_mem); (case zzq2 => k_mem); (case zza0 => assumption); (case zza1 => assumption); (case zzb0 => assumption); (case zzb1 => assumption); (case zzc0 => assumption); (case zzc1 => assumption); (case zzd0 => assumption); (case zzd1 => assumption); (case zzkd => ktr_room); (case zzku => ktr_units)); intro r9 n9 h9 tk9 F9 N9 e9; obtain ⟨e8, e7⟩ := e9; subst e7; subst e8; (try dsimp only); (try k_fold); (try k_sweep); walk_say "CALL 63")) | (((with_reducible show wpAny _ _ (call (Value.ref _) _) _ _ _); k_dflt (refine' Ctr.use ?zzk1 ?zzk2 ?zzk3 ?zzk4 ?zzk5 ?zzkK (FoundS.use ?zzq0 ?zzq1 ?zzq2 ?zzq3 ?zzq4 ?zzq5) ?zzkd ?zzku ?_; (case zzk1 => k_asm); (case zzk2 => k_asm); (case zzk3 => k_asm); (case zzk4 => k_asm); (case zzk5 => k_asm); (case zzkK => first | exact rfl | assumption); (case zzq0 => assumption); (case zzq2 => k_mem); (case zzq4 => k_mem); (case zzq3 => assumption); (case zzq5 => assumption); (case zzq1 => (intro p9 hp9; repeat (first | exact hp9 | refine List.Mem.tail _ ?_))); (case zzkd => ktr_room); (case zzku => ktr_units)); intro r9 n9 h9 tk9 F9 N9 e9; obtain ⟨e8, e7⟩ := e9; subst e8; subst e7; (try dsimp only); (try k_fold); (try k_sweep); walk_say "CALL FOUND")) | ((with_reducible show wpAny _ _ (PySem.callWith _ (Value.ref _) _ _ _) _ _ _); (k_dflt (refine' callWith_F ?zzk1 ?_; (case zzk1 => exact FnAt.of (by k_asm) (by k_mem)); k_whole))) | ((with_reducible show wpAny _ _ (PySem.getAttr (Value.ref _) _ _) _ _ _); (k_dflt (refine' get_own ?zzk1 ?zzk2 ?zzk3 ?zzk4 ?zzk5 ?zzk6 ?zzk7 ?zzk8 ?zzk9 ?_; (case zzk1 => k_asm); (case zzk2 => k_asm); (case zzk3 => k_inst); (case zzk4 => k_is); (case zzk5 => k_is); (case zzk6 => k_is); (case zzk7 => k_is); (case zzk8 => first | assumption | k_get); (case zzk9 => k_handed); k_whole))) | (((with_reducible show wpAny _ _ (call (Value.builtin "len") [Value.ref _]) _ _ _); k_dflt (refine' len_M ?zzN ?zzm ?zzf ?_; (case zzN => k_asm); (case zzm => k_mem); (case zzf => omega); k_whole))) | ((with_reducible show wpAny _ _ (PySem.execs (_ :: _) _) _ _ _); ((with_reducible refine wpAny_execs_cons ?_); (try dsimp only); (try k_fold))) | walk1)) | (leave1; walk_say "STEP leave1"; try dsimp only) | fail "no step")
        (rename News _ _ _ _ => lN)
        refine' come_fin (by k_asm) lN ?hmh ?hm hown hr2 (lastsAt_ev k0 k1 he hev) (fun p hp => hp)
        case hmh =>
          show some (Value.bool (comeB (evs.take i) v0 v1)) = some (Value.bool (comeB (evs.take (i + 1)) v0 v1))
          rw [comeB_step v0 v1 he, hev, Bool.not_true, Bool.false_and, Bool.or_false]
        case hm =>
          intro z hz hz2
          simp at hz2
          simp [hz, hz2]
      | false =>
        simp only [evTag, hev, Bool.false_eq_true, if_false] at hy
        obtain ⟨vv0, hval0, x0, p1, p2, p3, p4, rfl, hx0, c0, c1, d0, d1⟩ := hh0 e.key hEv.k0 (hEv.sig hev)
        obtain ⟨vv1, hval, x1, q1, q2, q3, q4, rfl, hx1, a0, a1, b0, b1⟩ := hh1 e.key hEv.k0 (hEv.sig hev)
        have e0 : lastV k0 e = .ref x0 := by simp [lastV, hev, heldV, hval0]
        have e1 : lastV k1 e = .ref x1 := by simp [lastV, hev, heldV, hval]
        rw [e0] at hgo
        replace hx0 := hsub _ hx0
        replace hx1 := hsub _ hx1
        have hst : comeB (evs.take (i + 1)) v0 v1 = (comeB (evs.take i) v0 v1 || cameB e.so ((v0 e.key).1, (v0 e.key).2.1, (v0 e.key).2.2) ((v1 e.key).1, (v1 e.key).2.1, (v1 e.key).2.2)) := by
          rw [comeB_step v0 v1 he, hev, Bool.not_false, Bool.true_and]
        have hls := lastsAt_set k0 k1 he
        rw [e1] at hls
        repeat' (first | (k_unfold; (try dsimp only)) | (k_end; wrow_close) | ((with_reducible show wpAny _ _ (PySem.setItem (Value.ref _) (Value.int _ _) _) _ _ _); (k_dflt (refine' list_set ?zzF ?zzN ?zzU ?zzh0 ?zzh1 ?zzh2 ?_; (case zzF => k_asm); (case zzN => k_asm); (case zzU => k_upd); (case zzh0 => omega); (case zzh1 => omega); (case zzh2 => omega)); intro h' F' N'; (try dsimp only at N'))) | (((with_reducible show wpAny _ _ (subscriptTail _ _ (Value.ref _) (Value.int _ _)) _ _ _); k_dflt (refine' list_at ?zzN ?zzm ?zzh0 ?zzh1 ?zze ?_ ?zzhs ?zzhg; (case zzN => k_asm); (case zzm => k_mem); (case zze => assumption); (case zzh0 => omega); (case zzh1 => omega); (case zzhs => with_unfolding_all rfl); (case zzhg => (intro _; with_unfolding_all rfl)); k_whole))) | (((with_reducible show wpAny _ _ (call (Value.ref 63) _) _ _ _); k_dflt (refine' Ctr.use ?zzk1 ?zzk2 ?zzk3 ?zzk4 ?zzk5 ?zzkK (edge_c _ _ _ _ ?zzq0 _ _ _ _ _ _ _ _ ?zzq1 ?zza0 ?zza1 ?zzb0 ?zzb1 _ _ _ _ _ _ _ _ ?zzq2 ?zzc0 ?zzc1 ?zzd0 ?zzd1) ?zzkd ?zzku ?_; (case zzk1 => k_asm); (case zzk2 => k_asm); (case zzk3 => k_asm); (case zzk4 => k_asm); (case zzk5 => k_asm); (case zzkK => first | exact rfl | assumption); (case zzq0 => assumption); (case zzq1 => k_mem); (case zzq2 => k_mem); (case zza0 => assumption); (case zza1 => assumption); (case zzb0 => assumption); (case zzb1 => assumption); (case zzc0 => assumption); (case zzc1 => assumption); (case zzd0 => assumption); (case zzd1 => assumption); (case zzkd => ktr_room); (case zzku => ktr_units)); intro r9 n9 h9 tk9 F9 N9 e9; obtain ⟨e8, e7⟩ := e9; subst e7; subst e8; (try dsimp only); (try k_fold); (try k_sweep); walk_say "CALL 63")) | (((with_reducible show wpAny _ _ (call (Value.ref _) _) _ _ _); k_dflt (refine' Ctr.use ?zzk1 ?zzk2 ?zzk3 ?zzk4 ?zzk5 ?zzkK (FoundS.use ?zzq0 ?zzq1 ?zzq2 ?zzq3 ?zzq4 ?zzq5) ?zzkd ?zzku ?_; (case zzk1 => k_asm); (case zzk2 => k_asm); (case zzk3 => k_asm); (case zzk4 => k_asm); (case zzk5 => k_asm); (case zzkK => first | exact rfl | assumption); (case zzq0 => assumption); (case zzq2 => k_mem); (case zzq4 => k_mem); (case zzq3 => assumption); (case zzq5 => assumption); (case zzq1 => (intro p9 hp9; repeat (first | exact hp9 | refine List.Mem.tail _ ?_))); (case zzkd => ktr_room); (case zzku => ktr_units)); intro r9 n9 h9 tk9 F9 N9 e9; obtain ⟨e8, e7⟩ := e9; subst e8; subst e7; (try dsimp only); (try k_fold); (try k_sweep); walk_say "CALL FOUND")) | ((with_reducible show wpAny _ _ (PySem.callWith _ (Value.ref _) _ _ _) _ _ _); (k_dflt (refine' callWith_F ?zzk1 ?_; (case zzk1 => exact FnAt.of (by k_asm) (by k_mem)); k_whole))) | ((with_reducible show wpAny _ _ (PySem.getAttr (Value.ref _) _ _) _ _ _); (k_dflt (refine' get_own ?zzk1 ?zzk2 ?zzk3 ?zzk4 ?zzk5 ?zzk6 ?zzk7 ?zzk8 ?zzk9 ?_; (case zzk1 => k_asm); (case zzk2 => k_asm); (case zzk3 => k_inst); (case zzk4 => k_is); (case zzk5 => k_is); (case zzk6 => k_is); (case zzk7 => k_is); (case zzk8 => first | assumption | k_get); (case zzk9 => k_handed); k_whole))) | (((with_reducible show wpAny _ _ (call (Value.builtin "len") [Value.ref _]) _ _ _); k_dflt (refine' len_M ?zzN ?zzm ?zzf ?_; (case zzN => k_asm); (case zzm => k_mem); (case zzf => omega); k_whole))) | ((with_reducible show wpAny _ _ (PySem.execs (_ :: _) _) _ _ _); ((with_reducible refine wpAny_execs_cons ?_); (try dsimp only); (try k_fold))) | walk1 | (dsimp only; (first | ((with_reducible show wpAny _ _ (PySem.setItem (Value.ref _) (Value.int _ _) _) _ _ _); (k_dflt (refine' list_set ?zzF ?zzN ?zzU ?zzh0 ?zzh1 ?zzh2 ?_; (case zzF => k_asm); (case zzN => k_asm); (case zzU => k_upd); (case zzh0 => omega); (case zzh1 => omega); (case zzh2 => omega)); intro h' F' N'; (try dsimp only at N'))) | (((with_reducible show wpAny _ _ (subscriptTail _ _ (Value.ref _) (Value.int _ _)) _ _ _); k_dflt (refine' list_at ?zzN ?zzm ?zzh0 ?zzh1 ?zze ?_ ?zzhs ?zzhg; (case zzN => k_asm); (case zzm => k_mem); (case zze => assumption); (case zzh0 => omega); (case zzh1 => omega); (case zzhs => with_unfolding_all rfl); (case zzhg => (intro _; with_unfolding_all rfl)); k_whole))) | (((with_reducible show wpAny _ _ (call (Value.ref 63) _) _ _ _); k_dflt (refine' Ctr.use ?zzk1 ?zzk2 ?zzk3 ?zzk4 ?zzk5 ?zzkK (edge_c _ _ _ _ ?zzq0 _ _ _ _ _ _ _ _ ?zzq1 ?zza0 ?zza1 ?zzb0 ?zzb1 _ _ _ _ _ _ _ _ ?zzq2 ?zzc0 ?zzc1 ?zzd0 ?zzd1) ?zzkd ?zzku ?_; (case zzk1 => k_asm); (case zzk2 => k_asm); (case zzk3 => k_asm); (case zzk4 => k_asm); (case zzk5 => k_asm); (case zzkK => first | exact rfl | assumption); (case zzq0 => assumption); (case zzq1 => k_mem); (case zzq2 => k_mem); (case zza0 => assumption); (case zza1 => assumption); (case zzb0 => assumption); (case zzb1 => assumption); (case zzc0 => assumption); (case zzc1 => assumption); (case zzd0 => assumption); (case zzd1 => assumption); (case zzkd => ktr_room); (case zzku => ktr_units)); intro r9 n9 h9 tk9 F9 N9 e9; obtain ⟨e8, e7⟩ := e9; subst e7; subst e8; (try dsimp only); (try k_fold); (try k_sweep); walk_say "CALL 63")) | (((with_reducible show wpAny _ _ (call (Value.ref _) _) _ _ _); k_dflt (refine' Ctr.use ?zzk1 ?zzk2 ?zzk3 ?zzk4 ?zzk5 ?zzkK (FoundS.use ?zzq0 ?zzq1 ?zzq2 ?zzq3 ?zzq4 ?zzq5) ?zzkd ?zzku ?_; (case zzk1 => k_asm); (case zzk2 => k_asm); (case zzk3 => k_asm); (case zzk4 => k_asm); (case zzk5 => k_asm); (case zzkK => first | exact rfl | assumption); (case zzq0 => assumption); (case zzq2 => k_mem); (case zzq4 => k_mem); (case zzq3 => assumption); (case zzq5 => assumption); (case zzq1 => (intro p9 hp9; repeat (first | exact hp9 | refine List.Mem.tail _ ?_))); (case zzkd => ktr_room); (case zzku => ktr_units)); intro r9 n9 h9 tk9 F9 N9 e9; obtain ⟨e8, e7⟩ := e9; subst e8; subst e7; (try dsimp only); (try k_fold); (try k_sweep); walk_say "CALL FOUND")) | ((with_reducible show wpAny _ _ (PySem.callWith _ (Value.ref _) _ _ _) _ _ _); (k_dflt (refine' callWith_F ?zzk1 ?_; (case zzk1 => exact FnAt.of (by k_asm) (by k_mem)); k_whole))) | ((with_reducible show wpAny _ _ (PySem.getAttr (Value.ref _) _ _) _ _ _); (k_dflt (refine' get_own ?zzk1 ?zzk2 ?zzk3 ?zzk4 ?zzk5 ?zzk6 ?zzk7 ?zzk8 ?zzk9 ?_; (case zzk1 => k_asm); (case zzk2 => k_asm); (case zzk3 => k_inst); (case zzk4 => k_is); (case zzk5 => k_is); (case zzk6 => k_is); (case zzk7 => k_is); (case zzk8 => first | assumption | k_get); (case zzk9 => k_handed); k_whole))) | (((with_reducible show wpAny _ _ (call (Value.builtin "len") [Value.ref _]) _ _ _); k_dflt (refine' len_M ?zzN ?zzm ?zzf ?_; (case zzN => k_asm); (case zzm => k_mem); (case zzf => omega); k_whole))) | ((with_reducible show wpAny _ _ (PySem.execs (_ :: _) _) _ _ _); ((with_reducible refine wpAny_execs_cons ?_); (try dsimp only); (try k_fold))) | walk1)) | (leave1; walk_say "STEP leave1"; try dsimp only) | fail "no step")
        all_goals (
          (rename News _ _ _ _ => lN)
          refine' come_fin (by k_asm) lN ?_ ?_ hown hr2 ?_ (fun p hp => hp)
          · first
            | (show some (Value.bool true) = some (Value.bool (comeB (evs.take (i + 1)) v0 v1)); rw [hst, (by assumption : cameB e.so ((v0 e.key).1, (v0 e.key).2.1, (v0 e.key).2.2) ((v1 e.key).1, (v1 e.key).2.1, (v1 e.key).2.2) = true), Bool.or_true])
            | (show some (Value.bool (comeB (evs.take i) v0 v1)) = some (Value.bool (comeB (evs.take (i + 1)) v0 v1)); rw [hst, (by assumption : cameB e.so ((v0 e.key).1, (v0 e.key).2.1, (v0 e.key).2.2) ((v1 e.key).1, (v1 e.key).2.1, (v1 e.key).2.2) = false), Bool.or_false])
          · intro z hz hz2
            simp at hz2
            simp [hz, hz2]
          · rw [Int.toNat_natCast]; exact hls)
    case done =>
      intro u nx h tk ⟨n2, enx⟩ F1 N1
      subst enx
      clear lN lF N F
      have e9 : lastsAt evs k0 k1 vsE.length = evs.map (lastV k1) := by rw [hlE]; simp [lastsAt]
      rw [e9] at N1
      repeat' (first | (k_unfold; (try dsimp only)) | (k_end; wrow_close) | ((with_reducible show wpAny _ _ (PySem.setItem (Value.ref _) (Value.int _ _) _) _ _ _); (k_dflt (refine' list_set ?zzF ?zzN ?zzU ?zzh0 ?zzh1 ?zzh2 ?_; (case zzF => k_asm); (case zzN => k_asm); (case zzU => k_upd); (case zzh0 => omega); (case zzh1 => omega); (case zzh2 => omega)); intro h' F' N'; (try dsimp only at N'))) | (((with_reducible show wpAny _ _ (subscriptTail _ _ (Value.ref _) (Value.int _ _)) _ _ _); k_dflt (refine' list_at ?zzN ?zzm ?zzh0 ?zzh1 ?zze ?_ ?zzhs ?zzhg; (case zzN => k_asm); (case zzm => k_mem); (case zze => assumption); (case zzh0 => omega); (case zzh1 => omega); (case zzhs => with_unfolding_all rfl); (case zzhg => (intro _; with_unfolding_all rfl)); k_whole))) | (((with_reducible show wpAny _ _ (call (Value.ref 63) _) _ _ _); k_dflt (refine' Ctr.use ?zzk1 ?zzk2 ?zzk3 ?zzk4 ?zzk5 ?zzkK (edge_c _ _ _ _ ?zzq0 _ _ _ _ _ _ _ _ ?zzq1 ?zza0 ?zza1 ?zzb0 ?zzb1 _ _ _ _ _ _ _ _ ?zzq2 ?zzc0 ?zzc1 ?zzd0 ?zzd1) ?zzkd ?zzku ?_; (case zzk1 => k_asm); (case zzk2 => k_asm); (case zzk3 => k_asm); (case zzk4 => k_asm); (case zzk5 => k_asm); (case zzkK => first | exact rfl | assumption); (case zzq0 => assumption); (case zzq1 => k_mem); (case zzq2 => k_mem); (case zza0 => assumption); (case zza1 => assumption); (case zzb0 => assumption); (case zzb1 => assumption); (case zzc0 => assumption); (case zzc1 => assumption); (case zzd0 => assumption); (case zzd1 => assumption); (case zzkd => ktr_room); (case zzku => ktr_units)); intro r9 n9 h9 tk9 F9 N9 e9; obtain ⟨e8, e7⟩ := e9; subst e7; subst e8; (try dsimp only); (try k_fold); (try k_sweep); walk_say "CALL 63")) | (((with_reducible show wpAny _ _ (call (Value.ref _) _) _ _ _); k_dflt (refine' Ctr.use ?zzk1 ?zzk2 ?zzk3 ?zzk4 ?zzk5 ?zzkK (FoundS.use ?zzq0 ?zzq1 ?zzq2 ?zzq3 ?zzq4 ?zzq5) ?zzkd ?zzku ?_; (case zzk1 => k_asm); (case zzk2 => k_asm); (case zzk3 => k_asm); (case zzk4 => k_asm); (case zzk5 => k_asm); (case zzkK => first | exact rfl | assumption); (case zzq0 => assumption); (case zzq2 => k_mem); (case zzq4 => k_mem); (case zzq3 => assumption); (case zzq5 => assumption); (case zzq1 => (intro p9 hp9; repeat (first | exact hp9 | refine List.Mem.tail _ ?_))); (case zzkd => ktr_room); (case zzku => ktr_units)); intro r9 n9 h9 tk9 F9 N9 e9; obtain ⟨e8, e7⟩ := e9; subst e8; subst e7; (try dsimp only); (try k_fold); (try k_sweep); walk_say "CALL FOUND")) | ((with_reducible show wpAny _ _ (PySem.callWith _ (Value.ref _) _ _ _) _ _ _); (k_dflt (refine' callWith_F ?zzk1 ?_; (case zzk1 => exact FnAt.of (by k_asm) (by k_mem)); k_whole))) | ((with_reducible show wpAny _ _ (PySem.getAttr (Value.ref _) _ _) _ _ _); (k_dflt (refine' get_own ?zzk1 ?zzk2 ?zzk3 ?zzk4 ?zzk5 ?zzk6 ?zzk7 ?zzk8 ?zzk9 ?_; (case zzk1 => k_asm); (case zzk2 => k_asm); (case zzk3 => k_inst); (case zzk4 => k_is); (case zzk5 => k_is); (case zzk6 => k_is); (case zzk7 => k_is); (case zzk8 => first | assumption | k_get); (case zzk9 => k_handed); k_whole))) | (((with_reducible show wpAny _ _ (call (Value.builtin "len") [Value.ref _]) _ _ _); k_dflt (refine' len_M ?zzN ?zzm ?zzf ?_; (case zzN => k_asm); (case zzm => k_mem); (case zzf => omega); k_whole))) | ((with_reducible show wpAny _ _ (PySem.execs (_ :: _) _) _ _ _); ((with_reducible refine wpAny_execs_cons ?_); (try dsimp only); (try k_fold))) | walk1 | (dsimp only; (first | ((with_reducible show wpAny _ _ (PySem.setItem (Value.ref _) (Value.int _ _) _) _ _ _); (k_dflt (refine' list_set ?zzF ?zzN ?zzU ?zzh0 ?zzh1 ?zzh2 ?_; (case zzF => k_asm); (case zzN => k_asm); (case zzU => k_upd); (case zzh0 => omega); (case zzh1 => omega); (case zzh2 => omega)); intro h' F' N'; (try dsimp only at N'))) | (((with_reducible show wpAny _ _ (subscriptTail _ _ (Value.ref _) (Value.int _ _)) _ _ _); k_dflt (refine' list_at ?zzN ?zzm ?zzh0 ?zzh1 ?zze ?_ ?zzhs ?zzhg; (case zzN => k_asm); (case zzm => k_mem); (case zze => assumption); (case zzh0 => omega); (case zzh1 => omega); (case zzhs => with_unfolding_all rfl); (case zzhg => (intro _; with_unfolding_all rfl)); k_whole))) | (((with_reducible show wpAny _ _ (call (Value.ref 63) _) _ _ _); k_dflt (refine' Ctr.use ?zzk1 ?zzk2 ?zzk3 ?zzk4 ?zzk5 ?zzkK (edge_c _ _ _ _ ?zzq0 _ _ _ _ _ _ _ _ ?zzq1 ?zza0 ?zza1 ?zzb0 ?zzb1 _ _ _ _ _ _ _ _ ?zzq2 ?zzc0 ?zzc1 ?zzd0 ?zzd1) ?zzkd ?zzku ?_; (case zzk1 => k_asm); (case zzk2 => k_asm); (case zzk3 => k_asm); (case zzk4 => k_asm); (case zzk5 => k_asm); (case zzkK => first | exact rfl | assumption); (case zzq0 => assumption); (case zzq1 => k_mem); (case zzq2 => k_mem); (case zza0 => assumption); (case zza1 => assumption); (case zzb0 => assumption); (case zzb1 => assumption); (case zzc0 => assumption); (case zzc1 => assumption); (case zzd0 => assumption); (case zzd1 => assumption); (case zzkd => ktr_room); (case zzku => ktr_units)); intro r9 n9 h9 tk9 F9 N9 e9; obtain ⟨e8, e7⟩ := e9; subst e7; subst e8; (try dsimp only); (try k_fold); (try k_sweep); walk_say "CALL 63")) | (((with_reducible show wpAny _ _ (call (Value.ref _) _) _ _ _); k_dflt (refine' Ctr.use ?zzk1 ?zzk2 ?zzk3 ?zzk4 ?zzk5 ?zzkK (FoundS.use ?zzq0 ?zzq1 ?zzq2 ?zzq3 ?zzq4 ?zzq5) ?zzkd ?zzku ?_; (case zzk1 => k_asm); (case zzk2 => k_asm); (case zzk3 => k_asm); (case zzk4 => k_asm); (case zzk5 => k_asm); (case zzkK => first | exact rfl | assumption); (case zzq0 => assumption); (case zzq2 => k_mem); (case zzq4 => k_mem); (case zzq3 => assumption); (case zzq5 => assumption); (case zzq1 => (intro p9 hp9; repeat (first | exact hp9 | refine List.Mem.tail _ ?_))); (case zzkd => ktr_room); (case zzku => ktr_units)); intro r9 n9 h9 tk9 F9 N9 e9; obtain ⟨e8, e7⟩ := e9; subst e8; subst e7; (try dsimp only); (try k_fold); (try k_sweep); walk_say "CALL FOUND")) | ((with_reducible show wpAny _ _ (PySem.callWith _ (Value.ref _) _ _ _) _ _ _); (k_dflt (refine' callWith_F ?zzk1 ?_; (case zzk1 => exact FnAt.of (by k_asm) (by k_mem)); k_whole))) | ((with_reducible show wpAny _ _ (PySem.getAttr (Value.ref _) _ _) _ _ _); (k_dflt (refine' get_own ?zzk1 ?zzk2 ?zzk3 ?zzk4 ?zzk5 ?zzk6 ?zzk7 ?zzk8 ?zzk9 ?_; (case zzk1 => k_asm); (case zzk2 => k_asm); (case zzk3 => k_inst); (case zzk4 => k_is); (case zzk5 => k_is); (case zzk6 => k_is); (case zzk7 => k_is); (case zzk8 => first | assumption | k_get); (case zzk9 => k_handed); k_whole))) | (((with_reducible show wpAny _ _ (call (Value.builtin "len") [Value.ref _]) _ _ _); k_dflt (refine' len_M ?zzN ?zzm ?zzf ?_; (case zzN => k_asm); (case zzm => k_mem); (case zzf => omega); k_whole))) | ((with_reducible show wpAny _ _ (PySem.execs (_ :: _) _) _ _ _); ((with_reducible refine wpAny_execs_cons ?_); (try dsimp only); (try k_fold))) | walk1)) | (leave1; walk_say "STEP leave1"; try dsimp only) | fail "no step")
      refine hret _ _ _ _ (by k_asm) (by k_asm) ⟨n2, ?_, rfl⟩
      rw [hlE, List.take_length]
end
section
open PySem PySem.W PyProof.Rows PySem.Calls PyProof.V
section
open PyProof.Rows.LCg
variable {prog : Program} {w : World} {A : Around} {s : Shared} {h₀ : Heap} {L : Addr} {m : Str → Option Value} {env : Env} {elt ct : PySem.Expr} {x x₂ : Str} {scope : Scope} {cl : List (Str × Addr)} {S : Led → Prop} {P : Nat → Value → Prop} {Fin : List Value → Led → Prop}
theorem restT_all {n : Nat} (J : Nat → List Value → Led → Prop) (fin : ∀ ys nx, J n ys nx → Fin ys nx)
    (step : ∀ i ys nx, i < n → J i ys nx → ∀ v I oI C oC D m₂ h tk (E' : Value → Shared → Prop), P i v → NsObj oC m₂ → m₂ x = some v → Fr h₀ L h m → News h₀ L h ((I, oI) :: (C, oC) :: (D, lst ys) :: nx) → Off3 I C D nx → ((@Ne Nat I C) ∧ (@Ne Nat I D) ∧ (@Ne Nat C D)) →
      wpAny (model prog w) A (isTrue ct (compEnvC scope cl C env) (eval ct (compEnvC scope cl C env))) (fun ok s' => if ok = true then
        wpAny (model prog w) A (eval elt (compEnvC scope cl C env)) (CompEnd h₀ L m { s with heap := h, toks := tk } I oI C oC D (lst ys) S (fun y nx' => J (i + 1) (ys ++ [y]) nx')) E' s'
        else CompEnd h₀ L m { s with heap := h, toks := tk } I oI C oC D (lst ys) S (fun _ nx' => J (i + 1) ys nx') Value.none s') E' { s with heap := h, toks := tk }) :
    ∀ (k i : Nat) (ys : List Value) (nx : Led), i + k = n → J i ys nx → LCt.CompRestT prog w A h₀ L m env ct elt x scope cl s S P Fin k i ys nx
  | 0, i, ys, nx, e, hj => LCt.CompRestT.zero (fin ys nx (by rw [← e]; exact hj))
  | k + 1, i, ys, nx, e, hj => LCt.CompRestT.succ fun v I oI C oC D m₂ h tk E' hP hC hx F N o3 ne => by
    refine wpAny_mono (step i ys nx (by omega) hj v I oI C oC D m₂ h tk E' hP hC hx F N o3 ne) (fun ok s' q => ?_) fun _ _ z => z
    cases ok with
    | true =>
      rw [if_pos rfl] at q ⊢
      refine wpAny_mono q (fun y s'' z => ?_) fun _ _ z => z
      obtain ⟨h', tk', nx', e1, F', N', o', S', j'⟩ := z
      exact ⟨h', tk', nx', e1, F', N', o', S', restT_all J fin step k (i + 1) _ _ (by omega) j'⟩
    | false =>
      rw [if_neg Bool.false_ne_true] at q ⊢
      obtain ⟨h', tk', nx', e1, F', N', o', S', j'⟩ := q
      exact ⟨h', tk', nx', e1, F', N', o', S', restT_all J fin step k (i + 1) _ _ (by omega) j'⟩
theorem restU_all {n : Nat} (J : Nat → List Value → Led → Prop) (fin : ∀ ys nx, J n ys nx → Fin ys nx)
    (step : ∀ i ys nx, i < n → J i ys nx → ∀ v I oI C oC D m₂ h tk (E' : Value → Shared → Prop), P i v → NsObj oC m₂ → m₂ x = some v → Fr h₀ L h m → News h₀ L h ((I, oI) :: (C, oC) :: (D, lst ys) :: nx) → Off3 I C D nx → ((@Ne Nat I C) ∧ (@Ne Nat I D) ∧ (@Ne Nat C D)) →
      wpAny (model prog w) A (eval elt (compEnvC scope cl C env)) (CompEnd h₀ L m { s with heap := h, toks := tk } I oI C oC D (lst ys) S (fun y nx' => J (i + 1) (ys ++ [y]) nx')) E' { s with heap := h, toks := tk }) :
    ∀ (k i : Nat) (ys : List Value) (nx : Led), i + k = n → J i ys nx → CompRest prog w A h₀ L m env elt x scope cl s S P Fin k i ys nx
  | 0, i, ys, nx, e, hj => CompRest.zero (fin ys nx (by rw [← e]; exact hj))
  | k + 1, i, ys, nx, e, hj => CompRest.succ fun v I oI C oC D m₂ h tk E' hP hC hx F N o3 ne => by
    refine wpAny_mono (step i ys nx (by omega) hj v I oI C oC D m₂ h tk E' hP hC hx F N o3 ne) (fun y s' z => ?_) fun _ _ z => z
    obtain ⟨h', tk', nx', e1, F', N', o', S', j'⟩ := z
    exact ⟨h', tk', nx', e1, F', N', o', S', restU_all J fin step k (i + 1) _ _ (by omega) j'⟩
theorem restP_all {n : Nat} (J : Nat → List Value → Led → Prop) (fin : ∀ ys nx, J n ys nx → Fin ys nx)
    (step : ∀ i ys nx, i < n → J i ys nx → ∀ v, P i v → ∃ (t : Addr) (ot : Obj) (v₁ v₂ : Value) (nt : Nat), v = .ref t ∧ (t, ot) ∈ nx ∧ ot.cls = .type "tuple" ∧ ot.data = .seq #[v₁, v₂] nt ∧
      ∀ I oI C oC D m₂ h tk (E' : Value → Shared → Prop), NsObj oC m₂ → m₂ x = some v₁ → m₂ x₂ = some v₂ → Fr h₀ L h m → News h₀ L h ((I, oI) :: (C, oC) :: (D, lst ys) :: nx) → Off3 I C D nx → ((@Ne Nat I C) ∧ (@Ne Nat I D) ∧ (@Ne Nat C D)) →
      wpAny (model prog w) A (eval elt (compEnvC scope cl C env)) (CompEnd h₀ L m { s with heap := h, toks := tk } I oI C oC D (lst ys) S (fun y nx' => J (i + 1) (ys ++ [y]) nx')) E' { s with heap := h, toks := tk }) :
    ∀ (k i : Nat) (ys : List Value) (nx : Led), i + k = n → J i ys nx → LCp.CompRestP prog w A h₀ L m env elt x x₂ scope cl s S P Fin k i ys nx
  | 0, i, ys, nx, e, hj => LCp.CompRestP.zero (fin ys nx (by rw [← e]; exact hj))
  | k + 1, i, ys, nx, e, hj => LCp.CompRestP.succ fun v hP => by
    obtain ⟨t, ot, v1, v2, nt, e1, e2, e3, e4, h⟩ := step i ys nx (by omega) hj v hP
    refine ⟨t, ot, v1, v2, nt, e1, e2, e3, e4, fun I oI C oC D m₂ h' tk E' a b c d e f g => wpAny_mono (h I oI C oC D m₂ h' tk E' a b c d e f g) (fun y s'' z => ?_) fun _ _ z => z⟩
    obtain ⟨h', tk', nx', e1, F', N', o', S', j'⟩ := z
    exact ⟨h', tk', nx', e1, F', N', o', S', restP_all J fin step k (i + 1) _ _ (by omega) j'⟩
end
end
section
open PySem PySem.W PyProof.Rows PySem.Calls PyProof.V
theorem ints_dat {news : Led} : ∀ {vs : List Value} {ns : List Int}, IntsAre vs ns → DatAll news vs (ns.map .int)
  | _, _, .nil => .nil
  | _, _, .cons n t r => .cons (.int n t) (ints_dat r)
def lastD (hv : Int → V3) (e : Ev) : Dat := if e.ev then .none else vecD (hv e.key).1 (hv e.key).2.1 (hv e.key).2.2
theorem vec_dat {news : Led} {v : Value} {t : V3} (h : VecAt news v t) : DatIn news v (vecD t.1 t.2.1 t.2.2) := by
  obtain ⟨x, t1, t2, t3, n, rfl, hx, _⟩ := h
  exact vecIn hx
theorem last_dat {nk : Int} {kvs : List (Int × Value)} {hv : Int → V3} {news : Led} (hh : HeldOk nk kvs hv news) : ∀ (evs : List Ev), (∀ e ∈ evs, EvOk nk e) → DatAll news (evs.map (lastV kvs)) (evs.map (lastD hv))
  | [], _ => .nil
  | e :: r, h => by
    have ih := last_dat hh r fun e he => h e (.tail _ he)
    have h0 := h e (.head _)
    refine .cons ?_ ih
    unfold lastV lastD
    cases hev : e.ev with
    | true => exact .none
    | false =>
      obtain ⟨v, e1, e2⟩ := hh e.key h0.k0 (h0.sig hev)
      simp only [Bool.false_eq_true, if_false, heldV, e1, Option.getD_some]
      exact vec_dat e2
theorem last_ok {hv : Int → V3} (n : Nat) (e : Ev) : kqdOk (n + 1) (lastD hv e) = true := by
  unfold lastD
  cases e.ev <;> simp [kqdOk, vecD]
theorem ev_ok {nk : Int} {e : Ev} (h : EvOk nk e) (n : Nat) : kqdOk (n + 2) (evD e) = true := by
  have h1 : PyData.strOk e.so = true := by
    rcases h.so with q | q | q <;> rw [q] <;> decide +kernel
  have h2 : PyData.strOk (evTag e) = true := by
    unfold evTag
    cases e.ev <;> decide +kernel
  simp [kqdOk, evD, h1, h2]
theorem list_ok {n : Nat} {ds : List Dat} (h : ∀ d ∈ ds, kqdOk n d = true) : kqdOk (n + 1) (.list ds) = true := by
  rw [kqdOk]; exact List.all_eq_true.mpr h
theorem tup_ok {n : Nat} {ds : List Dat} (h : ∀ d ∈ ds, kqdOk n d = true) : kqdOk (n + 1) (.tuple ds) = true := by
  rw [kqdOk]; exact List.all_eq_true.mpr h
theorem ints_ok (n : Nat) (ns : List Int) : kqdOk (n + 1) (.list (ns.map .int)) = true := list_ok fun d hd => by
  obtain ⟨i, _, rfl⟩ := List.mem_map.mp hd
  cases n <;> rfl
section
variable {prog : Program} {w : World} {A : Around} {E : Value → Shared → Prop} {s : Shared} {h₀ : Heap} {L a b : Addr} {news : Led} {d : Dat} {Q : Value → Shared → Prop}
theorem dat_same (N : News h₀ L s.heap news) (Dx : DatIn news (.ref a) d) (Dy : DatIn news (.ref b) d) (hd : kqdOk 8 d = true) (hu : A.units + 64 < cLine) (h : Q (.bool false) s) :
    wpAny (model prog w) A (compareOp .NotEq (.ref a) (.ref b)) Q E s := by
  haveI := Classical.propDecidable (d = d)
  refine dat_ne (d := d) (e := d) N Dx Dy hd hd hu ?_
  rw [decide_eq_true rfl]
  exact h
theorem lasts_same {nk : Int} {kvs : List (Int × Value)} {hv : Int → V3} {evs : List Ev} {n1 n2 : Nat} (hh : HeldOk nk kvs hv news) (hok : ∀ e ∈ evs, EvOk nk e) (N : News h₀ L s.heap news) (m1 : (a, listOf (evs.map (lastV kvs)).toArray n1) ∈ news) (m2 : (b, listOf (evs.map (lastV kvs)).toArray n2) ∈ news) (hu : A.units + 64 < cLine) (h : Q (.bool false) s) :
    wpAny (model prog w) A (compareOp .NotEq (.ref a) (.ref b)) Q E s :=
  dat_same (d := .list (evs.map (lastD hv))) N (.list m1 (last_dat hh evs hok)) (.list m2 (last_dat hh evs hok)) (list_ok fun d hd => by
    obtain ⟨e, _, rfl⟩ := List.mem_map.mp hd
    exact last_ok 6 e) hu h
theorem slept_same {sl nl l D : Addr} {vk vk2 : List Value} {ks : List Int} {n1 n2 n3 n4 : Nat} (N : News h₀ L s.heap news) (m1 : (sl, listOf [Value.ref nl].toArray n1) ∈ news) (m2 : (nl, listOf vk.toArray n2) ∈ news) (i1 : IntsAre vk ks) (m3 : (l, listOf [Value.ref D].toArray n3) ∈ news) (m4 : (D, listOf vk2.toArray n4) ∈ news) (i2 : IntsAre vk2 ks) (hu : A.units + 64 < cLine) (h : Q (.bool false) s) :
    wpAny (model prog w) A (compareOp .NotEq (.ref sl) (.ref l)) Q E s :=
  dat_same (d := .list [.list (ks.map .int)]) N (.list m1 (.cons (.list m2 (ints_dat i1)) .nil)) (.list m3 (.cons (.list m4 (ints_dat i2)) .nil)) (list_ok fun d hd => by rw [List.mem_singleton.mp hd]; exact ints_ok 6 ks) hu h
theorem wait_same {wt tp kl kl2 evl la lb : Addr} {vsE vk vk2 : List Value} {ks : List Int} {tw tw2 : Tok} {n1 n2 n3 n4 n5 k1 k2 : Nat} {nk : Int} {kvs : List (Int × Value)} {hv : Int → V3} {evs : List Ev} (hh : HeldOk nk kvs hv news) (hok : ∀ e ∈ evs, EvOk nk e) (N : News h₀ L s.heap news)
    (m1 : (wt, tupOf [.str "await" tw, .ref kl, .ref evl, .ref la] k1) ∈ news) (m2 : (tp, tupOf [.str "await" tw2, .ref kl2, .ref evl, .ref lb] k2) ∈ news) (m3 : (kl, listOf vk.toArray n1) ∈ news) (i1 : IntsAre vk ks) (m4 : (kl2, listOf vk2.toArray n2) ∈ news) (i2 : IntsAre vk2 ks)
    (m5 : (evl, listOf vsE.toArray n3) ∈ news) (hD : DatAll news vsE (evs.map evD)) (m6 : (la, listOf (evs.map (lastV kvs)).toArray n4) ∈ news) (m7 : (lb, listOf (evs.map (lastV kvs)).toArray n5) ∈ news) (hu : A.units + 64 < cLine) (h : Q (.bool false) s) :
    wpAny (model prog w) A (compareOp .NotEq (.ref wt) (.ref tp)) Q E s :=
  have D2 : DatAll news (evs.map (lastV kvs)) (evs.map (lastD hv)) := last_dat hh evs hok
  dat_same (d := .tuple [.str "await", .list (ks.map .int), .list (evs.map evD), .list (evs.map (lastD hv))]) N
    (.tuple m1 (.cons (.str _ _) (.cons (.list m3 (ints_dat i1)) (.cons (.list m5 hD) (.cons (.list m6 D2) .nil))))) (.tuple m2 (.cons (.str _ _) (.cons (.list m4 (ints_dat i2)) (.cons (.list m5 hD) (.cons (.list m7 D2) .nil)))))
    (tup_ok fun d hd => by
      simp only [List.mem_cons, List.mem_nil_iff, or_false] at hd
      rcases hd with rfl | rfl | rfl | rfl
      · exact (by decide +kernel : PyData.strOk "await" = true)
      · exact ints_ok 6 ks
      · exact list_ok fun d hd => by
          obtain ⟨e, he, rfl⟩ := List.mem_map.mp hd
          exact ev_ok (hok e he) 4
      · exact list_ok fun d hd => by
          obtain ⟨e, _, rfl⟩ := List.mem_map.mp hd
          exact last_ok 5 e) hu h
end
end
section
open PySem PySem.W PyProof.Rows PySem.Calls PyProof.V
theorem freshCame : True := by
  w_top off
  trivial

abbrev pairD (x y : Int) : Dat := .tuple [.int x, .int y]
theorem pairs_ok {a b c d e f g h i j : Int} : ∀ z ∈ [pairD a b, pairD c d, pairD e f, pairD g h, pairD i j], kqdOk 8 z = true := by
  intro z hz
  simp only [List.mem_cons, List.not_mem_nil, or_false] at hz
  rcases hz with h | h | h | h | h <;> subst h <;> rfl
open Classical in
theorem in_pairs {prog : Program} {w : World} {A : Around} {E : Value → Shared → Prop} {s : Shared} {h₀ : Heap} {L : Addr} {Q : Value → Shared → Prop} {news : Led} {z l : Addr} {vs : List Value} {n : Nat} {x y a b c d e f g h i j : Int} (N : News h₀ L s.heap news)
    (ml : (l, listOf vs.toArray n) ∈ news) (Da : DatAll news vs [pairD a b, pairD c d, pairD e f, pairD g h, pairD i j]) (Dx : DatIn news (.ref z) (pairD x y)) (hu : A.units + 64 < cLine)
    (k : Q (.bool (decide (pairD x y ∈ [pairD a b, pairD c d, pairD e f, pairD g h, pairD i j]))) s) : wpAny (model prog w) A (compareOp .In (.ref z) (.ref l)) Q E s :=
  kqd_isIn N ml rfl rfl Da (fun _ h => h) Dx (fun _ h => h) pairs_ok rfl hu k
theorem lowZ_cases (b c : Int) : lowZ b c = 0 ∨ lowZ b c = 1 ∨ lowZ b c = 2 ∨ lowZ b c = 3 := by unfold lowZ; omega
open Classical in
theorem pos_pairs (x y : Int) (hx : x = 0 ∨ x = 1 ∨ x = 2 ∨ x = 3) (hy : y = 0 ∨ y = 1 ∨ y = 2 ∨ y = 3) :
    decide (pairD x y ∈ [pairD 0 1, pairD 0 2, pairD 0 3, pairD 2 1, pairD 3 1]) = if x = y then false else (decide (x = 0) || decide (y = 1)) := by
  rcases hx with h | h | h | h <;> subst h <;> rcases hy with h | h | h | h <;> subst h <;> simp [pairD]
open Classical in
theorem neg_pairs (x y : Int) (hx : x = 0 ∨ x = 1 ∨ x = 2 ∨ x = 3) (hy : y = 0 ∨ y = 1 ∨ y = 2 ∨ y = 3) :
    decide (pairD x y ∈ [pairD 1 0, pairD 1 2, pairD 1 3, pairD 2 0, pairD 3 0]) = if x = y then false else (decide (x = 1) || decide (y = 0)) := by
  rcases hx with h | h | h | h <;> subst h <;> rcases hy with h | h | h | h <;> subst h <;> simp [pairD]
set_option maxRecDepth 100000 in
set_option maxHeartbeats 8000000 in
theorem came_c (w : World) (news : Led) (so : Str) (ts : Tok) (hs : so = "any" ∨ so = "pos" ∨ so = "neg") (x : Addr) (i1 i2 i3 : Int) (t1 t2 t3 : Tok) (n : Nat) (hx : (x, vecO i1 i2 i3 t1 t2 t3 n) ∈ news) (a0 : 0 ≤ i2) (a1 : i2 < 8) (b0 : 0 ≤ i3) (b1 : i3 < 8)
    (y : Addr) (j1 j2 j3 : Int) (u1 u2 u3 : Tok) (k : Nat) (hy : (y, vecO j1 j2 j3 u1 u2 u3 k) ∈ news) (c0 : 0 ≤ j2) (c1 : j2 < 8) (d0 : 0 ≤ j3) (d1 : j3 < 8) :
    Ctr w 126 [.str so ts, .ref x, .ref y] 2 160 news (fun r news' => news' = news ∧ r = .bool (cameB so (i1, i2, i3) (j1, j2, j3))) := by
  rcases hs with rfl | rfl | rfl
  all_goals (
    intro p loose mean mg mb dp un gd cn cs a ccd cl outer A₀ base h₀ L m s Q E B F X N T hk hd hu hret
    have hM := kdMark
    refine wpAny_call ?_
    k_dflt ktr_enter
    repeat' (first | (k_unfold; (try dsimp only)) | (k_end; wrow_close) | ((with_reducible show wpAny _ _ (compareOp CmpOp.In (Value.ref _) (Value.ref _)) _ _ _); (k_dflt (refine' in_pairs ?zzN ?zzml ?zzDa ?zzDx ?zzu ?_; (case zzN => k_asm); (case zzml => k_mem); (case zzDa => kd_all); (case zzDx => kd_in); (case zzu => ktr_units); k_whole))) | ((with_reducible show wpAny _ _ (compareOp CmpOp.NotEq (Value.ref _) (Value.ref _)) _ _ _); (k_dflt (refine' vec_ne ?zzN ?zzx ?zzy ?zzu ?_; (case zzN => k_asm); (case zzx => k_mem); (case zzy => k_mem); (case zzu => ktr_units); k_whole))) | (((with_reducible show wpAny _ _ (call (Value.ref 119) _) _ _ _); k_dflt (refine' Ctr.use ?zzk1 ?zzk2 ?zzk3 ?zzk4 ?zzk5 ?zzkK (low_c _ _ _ _ _ _ _ _ _ _ ?zzp1 ?zzp2 ?zzp3 ?zzp4 ?zzp5) ?zzkd ?zzku ?_; (case zzk1 => k_asm); (case zzk2 => k_asm); (case zzk3 => k_asm); (case zzk4 => k_asm); (case zzk5 => k_asm); (case zzkK => first | exact rfl | assumption); (case zzp1 => k_mem); (case zzp2 => assumption); (case zzp3 => assumption); (case zzp4 => assumption); (case zzp5 => assumption); (case zzkd => ktr_room); (case zzku => ktr_units)); intro r9 n9 h9 tk9 F9 N9 e9; obtain ⟨e8, t9, e7⟩ := e9; subst e7; subst e8; (try dsimp only); (try k_fold); (try k_sweep); walk_say "CALL 119")) | walk1 | (dsimp only; (first | ((with_reducible show wpAny _ _ (compareOp CmpOp.In (Value.ref _) (Value.ref _)) _ _ _); (k_dflt (refine' in_pairs ?zzN ?zzml ?zzDa ?zzDx ?zzu ?_; (case zzN => k_asm); (case zzml => k_mem); (case zzDa => kd_all); (case zzDx => kd_in); (case zzu => ktr_units); k_whole))) | ((with_reducible show wpAny _ _ (compareOp CmpOp.NotEq (Value.ref _) (Value.ref _)) _ _ _); (k_dflt (refine' vec_ne ?zzN ?zzx ?zzy ?zzu ?_; (case zzN => k_asm); (case zzx => k_mem); (case zzy => k_mem); (case zzu => ktr_units); k_whole))) | (((with_reducible show wpAny _ _ (call (Value.ref 119) _) _ _ _); k_dflt (refine' Ctr.use ?zzk1 ?zzk2 ?zzk3 ?zzk4 ?zzk5 ?zzkK (low_c _ _ _ _ _ _ _ _ _ _ ?zzp1 ?zzp2 ?zzp3 ?zzp4 ?zzp5) ?zzkd ?zzku ?_; (case zzk1 => k_asm); (case zzk2 => k_asm); (case zzk3 => k_asm); (case zzk4 => k_asm); (case zzk5 => k_asm); (case zzkK => first | exact rfl | assumption); (case zzp1 => k_mem); (case zzp2 => assumption); (case zzp3 => assumption); (case zzp4 => assumption); (case zzp5 => assumption); (case zzkd => ktr_room); (case zzku => ktr_units)); intro r9 n9 h9 tk9 F9 N9 e9; obtain ⟨e8, t9, e7⟩ := e9; subst e7; subst e8; (try dsimp only); (try k_fold); (try k_sweep); walk_say "CALL 119")) | walk1)) | (leave1; walk_say "STEP leave1"; try dsimp only) | fail "no step"))
  all_goals (refine hret _ _ _ _ (by k_asm) ?_ ⟨rfl, congrArg Value.bool ?_⟩)
  · k_asm
  · exact came_any.symm
  · exact fun p hp => (by assumption : News h₀ L _ _) p (by simp [hp])
  · rw [came_pos, pos_pairs _ _ (lowZ_cases _ _) (lowZ_cases _ _)]
  · exact fun p hp => (by assumption : News h₀ L _ _) p (by simp [hp])
  · rw [came_neg, neg_pairs _ _ (lowZ_cases _ _) (lowZ_cases _ _)]
end
section
open PySem PySem.W PyProof.Rows PySem.Calls PyProof.V
theorem freshWaited : True := by
  w_top off
  trivial

def but (l : Led) (as : List Addr) : Led := l.filter fun p => !as.contains p.1
theorem mem_but {l : Led} {as : List Addr} {p : Addr × Obj} (h : p ∈ l) (ho : ∀ a ∈ as, @Ne Nat p.1 a) : p ∈ but l as := by
  refine List.mem_filter.mpr ⟨h, ?_⟩
  simp only [Bool.not_eq_true', List.contains_eq_mem, decide_eq_false_iff_not]
  exact fun q => ho _ q rfl
theorem but_sub {l : Led} {as : List Addr} : ∀ p ∈ but l as, p ∈ l := fun _ h => (List.mem_filter.mp h).1
theorem but_off {l : Led} {as : List Addr} : OwnOff (but l as) as := by
  intro p hp b hb e
  have := (List.mem_filter.mp hp).2
  simp only [Bool.not_eq_true', List.contains_eq_mem, decide_eq_false_iff_not] at this
  exact this (e ▸ hb)
local macro_rules | `(tactic| walk_at "CompSrcT") => `(tactic| walk_say "AT SRC")
local macro_rules | `(tactic| walk_at "SrcLP") => `(tactic| walk_say "AT SRC")

theorem news_hd {h₀ h : Heap} {L a : Addr} {o : Obj} {r : Led} (_ : News h₀ L h ((a, o) :: r)) : ∃ b : Addr, b = a := ⟨a, rfl⟩
theorem news_tl {h₀ h : Heap} {L : Addr} {p : Addr × Obj} {r : Led} (N : News h₀ L h (p :: r)) : News h₀ L h r := fun q hq => N q (.tail _ hq)
def keyL (evs : List Ev) (n : Nat) : List Int := (List.range n).filterMap fun (j : Nat) => if (evs.any fun e => e.key == (j : Int)) then some (j : Int) else none
theorem keyL_yes {evs : List Ev} {n : Nat} (h : ((evs.map (fun e => e.key)).any fun x => x == 0 + (n : Int)) = true) : keyL evs (n + 1) = keyL evs n ++ [0 + (n : Int)] := by
  have h' : (evs.any fun e => e.key == (n : Int)) = true := by rw [List.any_map] at h; simpa [Function.comp_def] using h
  unfold keyL
  rw [List.range_succ, List.filterMap_append]
  simp only [List.filterMap_cons, h', if_true, List.filterMap_nil, Int.zero_add]
theorem keyL_no {evs : List Ev} {n : Nat} (h : ((evs.map (fun e => e.key)).any fun x => x == 0 + (n : Int)) = false) : keyL evs (n + 1) = keyL evs n := by
  have h' : (evs.any fun e => e.key == (n : Int)) = false := by rw [List.any_map] at h; simpa [Function.comp_def] using h
  unfold keyL
  rw [List.range_succ, List.filterMap_append]
  simp only [List.filterMap_cons, h', Bool.false_eq_true, if_false, List.filterMap_nil, List.append_nil]
theorem keyL_mem {evs : List Ev} {n : Nat} (k : Int) : k ∈ keyL evs n ↔ ∃ j : Nat, j < n ∧ k = j ∧ ∃ e ∈ evs, e.key = k := by
  unfold keyL
  simp only [List.mem_filterMap, List.mem_range]
  constructor
  · rintro ⟨j, hj, h⟩
    by_cases c : (evs.any fun e => e.key == (j : Int)) = true
    · rw [if_pos c] at h
      obtain ⟨e, he, hk⟩ := List.any_eq_true.mp c
      have hjk : (j : Int) = k := Option.some.inj h
      exact ⟨j, hj, hjk.symm, e, he, by rw [← hjk]; simpa using hk⟩
    · rw [if_neg c] at h; cases h
  · rintro ⟨j, hj, rfl, e, he, hk⟩
    refine ⟨j, hj, ?_⟩
    rw [if_pos (List.any_eq_true.mpr ⟨e, he, by simp [hk]⟩)]
theorem keyL_nodup {evs : List Ev} : ∀ n : Nat, (keyL evs n).Nodup ∧ (keyL evs n).length ≤ n
  | 0 => ⟨List.nodup_nil, Nat.le_refl _⟩
  | n + 1 => by
    obtain ⟨a, b⟩ := keyL_nodup n
    cases h : ((evs.map (fun e => e.key)).any fun x => x == 0 + (n : Int)) with
    | true =>
      rw [keyL_yes h]
      refine ⟨List.nodup_append.mpr ⟨a, by simp, fun x hx y hy => ?_⟩, by simp; omega⟩
      obtain ⟨j, hj, e, _⟩ := (keyL_mem x).mp hx
      have := List.mem_singleton.mp hy
      omega
    | false => rw [keyL_no h]; exact ⟨a, by omega⟩
theorem keyL_keys {nk : Int} {evs : List Ev} {ns : List Int} (hok : ∀ e ∈ evs, EvOk nk e) (p : ns.Perm (keyL evs 9)) (o : ns.Pairwise (fun x y => x ≤ y)) : KeysOf ns evs := by
  refine ⟨o, p.nodup_iff.mpr (keyL_nodup 9).1, fun k => (p.mem_iff).trans ((keyL_mem k).trans ⟨fun ⟨_, _, _, h⟩ => h, fun ⟨e, he, hk⟩ => ?_⟩)⟩
  have h0 := (hok e he).k0
  have h9 := (hok e he).k9
  exact ⟨k.toNat, by omega, by omega, e, he, hk⟩
def RowAt (w : World) (nk : Int) (P : V3 → Prop) (rest : Led) (v : Value) : Prop :=
  ∃ r ro kvr, v = .ref r ∧ (r == sysModules) = false ∧ (r, ro) ∈ rest ∧ ro.IsDictOf (intKind prg w) kvr ∧ kvr.length ≤ 3 ∧ ∀ k v, (k, v) ∈ kvr → 0 ≤ k ∧ k < nk ∧ ∃ t, VecAt rest v t ∧ P t
abbrev WaitPost (w : World) (nk : Int) (P : V3 → Prop) (hl : Addr) (rest : Led) (r : Value) (news' : Led) : Prop :=
  ∃ ps' ho' kvs' hv' rest', r = .bool true ∧ news' = (128, tabObj ps') :: (hl, ho') :: rest' ∧ (∀ p ∈ rest, p ∈ rest') ∧ ho'.IsDictOf (intKind prg w) kvs' ∧ HeldOk nk kvs' hv' rest ∧ (∀ k, 0 ≤ k → k < nk → P (hv' k)) ∧ TabS ps' rest' ∧ OwnOff rest' [128, hl]
theorem machine_w {w : World} {hl sl : Addr} {ho : Obj} {ps : Array Value} {full rest : Led}
    {p : Program} {loose : List Str} {mean : ExcName → Option Value} {mg mb : Str → Option Value} {dp un : Nat} {gd : Option (List Code)} {cn : Str} {cs : Scope} {a : Addr} {ccd : Value} {cl : List (Str × Addr)} {outer : List Env} {A₀ : Around} {base h₀ : Heap} {L : Addr} {m : Str → Option Value} {s : Shared} {Q E : Value → Shared → Prop}
    (B : Below A₀ base outer h₀) (F : Fr h₀ L s.heap m) (X : (hd.heap_1 w.params).In h₀) (N : News h₀ L s.heap full) (T : Top p loose mean mg mb h₀) (hk : cs.kind = .function)
    (m1 : (128, tabObj ps) ∈ full) (m2 : (hl, ho) ∈ full) (m3 : (sl, listOf [].toArray 0) ∈ full) (hr : ∀ p ∈ rest, p ∈ full) (hT : TabS ps rest) (off : OwnOff rest [128, hl]) (hsl : AllLt sl rest) (h1 : @Ne Nat hl 128) (h2 : @Ne Nat sl 128) (h3 : @Ne Nat sl hl)
    (hdp : dp + 4 < recursionLimit) (hun : un + 128 < cLine)
    (k : ∀ x ps' r2 h' tk', Fr h₀ L h' m → News h₀ L h' ((128, tabObj ps') :: (hl, ho) :: (sl, listOf [].toArray 0) :: r2) → Mach w x hl sl r2 → TabS ps' r2 → OwnOff r2 [128, hl, sl] → (∀ p ∈ full, @Ne Nat p.1 128 → @Ne Nat p.1 hl → @Ne Nat p.1 sl → p ∈ r2) → Q (.ref x) { s with heap := h', toks := tk' }) :
    wpAny (model prg w) (ktrTop dp un gd cn cs L a ccd cl outer) (call (.ref 133) [.ref hl, .ref sl]) Q E s := by
  have e3 : ∀ p ∈ rest, @Ne Nat p.1 sl := fun p hp => Nat.ne_of_lt (tb_ltOf hsl p hp)
  have hrB : ∀ p ∈ rest, p ∈ but full [128, hl, sl] := fun p hp => mem_but (hr p hp) (by
    intro b hb
    simp only [List.mem_cons, List.mem_nil_iff, or_false] at hb
    rcases hb with rfl | rfl | rfl
    · exact off p hp _ (by simp)
    · exact off p hp _ (by simp)
    · exact e3 p hp)
  refine Ctr.use B F X (cb_drop N ?_ : News h₀ L s.heap ((128, tabObj ps) :: (hl, ho) :: (sl, listOf [].toArray 0) :: but full [128, hl, sl])) T hk (machine_c w hl ho sl _ ps (hT.mono hrB) but_off h1 h2 h3) hdp hun ?_
  · intro p hp
    rcases List.mem_cons.mp hp with rfl | hp
    · exact m1
    · rcases List.mem_cons.mp hp with rfl | hp
      · exact m2
      · rcases List.mem_cons.mp hp with rfl | hp
        · exact m3
        · exact but_sub p hp
  · rintro r news' h' tk' F' N' ⟨x, ps', nw, rfl, rfl, hnw, hMa, hTb⟩
    refine k x ps' _ h' tk' F' N' hMa hTb ?_ ?_
    · intro p hp b hb
      rcases List.mem_append.mp hp with h | h
      · have z := hnw p h
        simp only [List.mem_cons, List.mem_nil_iff, or_false] at hb
        rcases hb with rfl | rfl | rfl
        · exact Nat.ne_of_gt z.1
        · exact Nat.ne_of_gt z.2.1
        · exact Nat.ne_of_gt z.2.2.1
      · exact but_off p h b hb
    · intro p hp a1 a2 a3
      refine List.mem_append.mpr (.inr (mem_but hp ?_))
      intro b hb
      simp only [List.mem_cons, List.mem_nil_iff, or_false] at hb
      rcases hb with rfl | rfl | rfl
      · exact a1
      · exact a2
      · exact a3
theorem off1_mem {D : Addr} : ∀ {l : Led}, PyProof.Rows.LCg.Off1 D l → ∀ p ∈ l, @Ne Nat p.1 D
  | [], _, _, h => nomatch h
  | _ :: _, x, p, h => by
    rcases List.mem_cons.mp h with rfl | h
    · exact x.1
    · exact off1_mem x.2 p h
theorem split3 {h₀ h : Heap} {L a b c : Addr} {o1 o2 o3 : Obj} {full : Led} (N : News h₀ L h full) (m1 : (a, o1) ∈ full) (m2 : (b, o2) ∈ full) (m3 : (c, o3) ∈ full) :
    ∃ r4, News h₀ L h ((a, o1) :: (b, o2) :: (c, o3) :: r4) ∧ OwnOff r4 [a, b, c] ∧ ∀ p ∈ full, @Ne Nat p.1 a → @Ne Nat p.1 b → @Ne Nat p.1 c → p ∈ r4 := by
  refine ⟨but full [a, b, c], cb_drop N ?_, but_off, fun p hp x y z => mem_but hp ?_⟩
  · intro p hp
    rcases List.mem_cons.mp hp with rfl | hp
    · exact m1
    · rcases List.mem_cons.mp hp with rfl | hp
      · exact m2
      · rcases List.mem_cons.mp hp with rfl | hp
        · exact m3
        · exact but_sub p hp
  · intro q hq
    simp only [List.mem_cons, List.mem_nil_iff, or_false] at hq
    rcases hq with rfl | rfl | rfl
    · exact x
    · exact y
    · exact z
theorem dict_cls {w : World} {o : Obj} {kvs : List (Int × Value)} (h : o.IsDictOf (intKind prg w) kvs) : o.cls = .type "dict" := by
  obtain ⟨_, _, h, _⟩ := h
  exact h.1
theorem bne_no {b : Bool} {C : Prop} (h : (b != b) = true) : C := absurd h (by cases b <;> decide)
inductive WaitJ (w : World) (nk : Int) (P : V3 → Prop) (evs : List Ev) (hl la lb : Addr) (rest r4 : Led) (i : Nat) : Led → Prop
  | mk (ho' : Obj) (kvs' : List (Int × Value)) (hv' : Int → V3) (n1 n2 : Nat) (hd : ho'.IsDictOf (intKind prg w) kvs') (hk : kvs'.length ≤ 10 + 3 * i) (hh : HeldOk nk kvs' hv' rest) (hP : ∀ k, 0 ≤ k → k < nk → P (hv' k)) :
    WaitJ w nk P evs hl la lb rest r4 i ((hl, ho') :: (la, listOf (evs.map (lastV kvs')).toArray n1) :: (lb, listOf (evs.map (lastV kvs')).toArray n2) :: r4)
theorem wait_turn {w : World} {nk : Int} {P : V3 → Prop} {evs : List Ev} {hl la lb : Addr} {rest r4 own r5 full : Led} {i n6 n5 : Nat} {ho2 o1 o2 o3 : Obj} {kvs2 : List (Int × Value)} {hv2 : Int → V3} {chl : Addr} {vch : List Value} {nch : Nat} {m₀ m' : Str → Option Value} {g h' : Heap} {L : Addr} {s : Shared} {tk : Nat}
    (F : Fr g L h' m') (N : News g L h' full) (hm : ∀ z : Str, (["row", "key", "due", "at", "sort", "expr"] : List Str).contains z = false → m' z = m₀ z) (hd : ho2.IsDictOf (intKind prg w) kvs2) (hlen : kvs2.length ≤ 10 + 3 * (i + 1)) (hh : HeldOk nk kvs2 hv2 rest) (hP : ∀ k, 0 ≤ k → k < nk → P (hv2 k)) (hch : (chl, listOf vch.toArray nch) ∈ r4)
    (hown : OwnOff own (((hl, o1) :: (la, o2) :: (lb, o3) :: r4).map (·.1))) (hr : r5 = r4 ++ own) (sub1 : (hl, ho2) ∈ full) (sub2 : (la, listOf (evs.map (lastV kvs2)).toArray n6) ∈ full) (sub3 : (lb, listOf (evs.map (lastV kvs2)).toArray n5) ∈ full) (sub4 : ∀ p ∈ r5, p ∈ full) :
    InvEndG g L (fun m' nx => (chl, listOf vch.toArray nch) ∈ nx ∧ JS ["row", "key", "due", "at", "sort", "expr"] m₀ (WaitJ w nk P evs hl la lb rest r4) (i + 1) m' nx) own s { s with heap := h', toks := tk } := by
  subst hr
  refine InvEndG.intro (nx := (hl, ho2) :: (la, listOf (evs.map (lastV kvs2)).toArray n6) :: (lb, listOf (evs.map (lastV kvs2)).toArray n5) :: r4) F N ⟨by simp only [List.mem_cons, hch, or_true], WaitJ.mk ho2 kvs2 hv2 n6 n5 hd hlen hh hP, hm⟩ hown ?_ fun p hp => sub4 p (List.mem_append.mpr (.inr hp))
  intro p hp
  simp only [List.mem_cons] at hp
  rcases hp with rfl | rfl | rfl | h
  · exact sub1
  · exact sub2
  · exact sub3
  · exact sub4 p (List.mem_append.mpr (.inl h))
inductive RowJ (w : World) (nk : Int) (P : V3 → Prop) (hl : Addr) (rest ra : Led) (B0 : Nat) (j : Nat) : Led → Prop
  | mk (ho2 : Obj) (kvs2 : List (Int × Value)) (hv2 : Int → V3) (hd : ho2.IsDictOf (intKind prg w) kvs2) (hk : kvs2.length ≤ B0 + j) (hh : HeldOk nk kvs2 hv2 rest) (hP : ∀ k, 0 ≤ k → k < nk → P (hv2 k)) : RowJ w nk P hl rest ra B0 j ((hl, ho2) :: ra)
theorem wait_fin {w : World} {nk : Int} {P : V3 → Prop} {hl la lb sl : Addr} {rest r2 r4 : Led} {ps2 : Array Value} {ho1 o2 o3 : Obj} {kvs1 : List (Int × Value)} {hv1 : Int → V3} {h₀ h' : Heap} {L : Addr} {m : Str → Option Value} {s : Shared} {Q : Value → Shared → Prop} {tk : Nat}
    (hret : ∀ r news' h' tk', Fr h₀ L h' m → News h₀ L h' news' → WaitPost w nk P hl rest r news' → Q r { s with heap := h', toks := tk' })
    (F : Fr h₀ L h' m) (N : News h₀ L h' ((hl, ho1) :: (la, o2) :: (lb, o3) :: r4)) (q1 : (128, tabObj ps2) ∈ r4) (p0 : ∀ p ∈ rest, p ∈ r4) (off : OwnOff rest [128, hl]) (p2 : ∀ p ∈ r2, p ∈ r4) (off2 : OwnOff r2 [128, hl, sl]) (hT : TabS ps2 r2)
    (hd1 : ho1.IsDictOf (intKind prg w) kvs1) (hh : HeldOk nk kvs1 hv1 rest) (hP : ∀ k, 0 ≤ k → k < nk → P (hv1 k)) : Q (.bool true) { s with heap := h', toks := tk } := by
  have put : ∀ p ∈ r4, @Ne Nat p.1 128 → @Ne Nat p.1 hl → p ∈ but r4 [128, hl] := fun p hp a1 a2 => mem_but hp (by
    intro b hb
    simp only [List.mem_cons, List.mem_nil_iff, or_false] at hb
    rcases hb with rfl | rfl
    · exact a1
    · exact a2)
  refine hret _ ((128, tabObj ps2) :: (hl, ho1) :: but r4 [128, hl]) h' tk F (cb_drop N ?_) ⟨ps2, ho1, kvs1, hv1, _, rfl, rfl, fun p hp => put p (p0 p hp) (off p hp _ (by simp)) (off p hp _ (by simp)), hd1, hh, hP, hT.mono fun p hp => put p (p2 p hp) (off2 p hp _ (by simp)) (off2 p hp _ (by simp)), but_off⟩
  intro p hp
  rcases List.mem_cons.mp hp with rfl | hp
  · simp only [List.mem_cons, q1, or_true]
  · rcases List.mem_cons.mp hp with rfl | hp
    · exact List.Mem.head _
    · simp only [List.mem_cons, but_sub p hp, or_true]
theorem row_held {nk : Int} {P : V3 → Prop} {rest : Led} {kvs : List (Int × Value)} {hv : Int → V3} {k : Int} {y : Value} {t : V3} (hh : HeldOk nk kvs hv rest) (hP : ∀ k, 0 ≤ k → k < nk → P (hv k)) (hy : VecAt rest y t) (ht : P t) :
    ∃ hv', HeldOk nk (stored kvs k y) hv' rest ∧ ∀ k, 0 ≤ k → k < nk → P (hv' k) := by
  refine ⟨fun k' => if k' = k then t else hv k', fun k' a b => ?_, fun k' a b => ?_⟩
  · rw [valueAt_stored]
    by_cases e : k' = k
    · simp only [if_pos e]; exact ⟨y, rfl, hy⟩
    · simp only [if_neg e]; exact hh k' a b
  · by_cases e : k' = k
    · simp only [if_pos e]; exact ht
    · simp only [if_neg e]; exact hP k' a b
theorem row_fin {w : World} {nk : Int} {P : V3 → Prop} {hl : Addr} {rest ra own r6 full : Led} {B0 j : Nat} {ho2 o1 : Obj} {kvs2 : List (Int × Value)} {hv2 : Int → V3} {k : Int} {y : Value} {t : V3} {m₀ m' : Str → Option Value} {g h' : Heap} {L : Addr} {s : Shared} {tk : Nat}
    (F : Fr g L h' m') (N : News g L h' full) (hm : ∀ z : Str, (["key"] : List Str).contains z = false → m' z = m₀ z) (hd : ho2.IsDictOf (intKind prg w) (stored kvs2 k y)) (hlen : kvs2.length ≤ B0 + j) (hh : HeldOk nk kvs2 hv2 rest) (hP : ∀ k, 0 ≤ k → k < nk → P (hv2 k)) (hy : VecAt rest y t) (ht : P t)
    (hown : OwnOff own (((hl, o1) :: ra).map (·.1))) (hr : r6 = ra ++ own) (sub : ∀ p ∈ (hl, ho2) :: r6, p ∈ full) :
    InvEndG g L (JS ["key"] m₀ (RowJ w nk P hl rest ra B0) (j + 1)) own s { s with heap := h', toks := tk } := by
  subst hr
  obtain ⟨hv', a, b⟩ := row_held (k := k) hh hP hy ht
  refine InvEndG.intro F N ⟨.mk ho2 _ hv' hd (Nat.le_trans (stored_length_le _ _ _) (by omega)) a b, hm⟩ hown ?_ ?_
  · intro p hp
    refine sub p ?_
    simp only [List.mem_cons, List.mem_append] at hp ⊢
    rcases hp with h | h <;> simp only [h, true_or, or_true]
  · intro p hp
    refine sub p ?_
    simp only [List.mem_cons, List.mem_append, hp, or_true]
theorem due_fin {evs : List Ev} {k0 k1 : List (Int × Value)} {lb hl la : Addr} {r5 own r7 full : Led} {i n2 : Nat} {o1 o2 o3 : Obj} {hvf : Nat → Value} {m₀ m' : Str → Option Value} {g h' : Heap} {L : Addr} {s : Shared} {tk : Nat} {ls : List Value}
    (F : Fr g L h' m') (N : News g L h' full) (hmh : m' "due" = some (hvf (i + 1))) (hm : ∀ z : Str, z ≠ "due" → (["at", "sort", "expr"] : List Str).contains z = false → m' z = m₀ z)
    (hown : OwnOff own (((lb, o1) :: (hl, o2) :: (la, o3) :: r5).map (·.1))) (hr : r7 = r5 ++ own) (hls : ls = lastsAt evs k0 k1 (i + 1)) (sub : ∀ p ∈ (lb, listOf ls.toArray n2) :: (hl, o2) :: (la, o3) :: r7, p ∈ full) :
    InvEndG g L (JH ["at", "sort", "expr"] "due" hvf m₀ (ComeJ evs k0 k1 lb ((hl, o2) :: (la, o3) :: r5)) (i + 1)) own s { s with heap := h', toks := tk } := by
  subst hls
  subst hr
  refine InvEndG.intro F N ⟨⟨n2, rfl⟩, hmh, hm⟩ hown ?_ ?_
  · intro p hp
    refine sub p ?_
    simp only [List.mem_cons, List.mem_append] at hp ⊢
    rcases hp with h | h | h | h <;> simp only [h, eq_self, true_or, or_true]
  · intro p hp
    refine sub p ?_
    simp only [List.mem_cons, List.mem_append, hp, or_true]
theorem come_w {w : World} {nk : Int} {mx th dt evl hl sl wt la kl : Addr} {lb : Addr} {ho : Obj} {k0 k1 : List (Int × Value)} {v0 v1 : Int → V3} {es : List DictEntry} {nT n : Nat} {tw : Tok} {r5 full : Led} {evs : List Ev}
    {p : Program} {loose : List Str} {mean : ExcName → Option Value} {mg mb : Str → Option Value} {dp un : Nat} {gd : Option (List Code)} {cn : Str} {cs : Scope} {a : Addr} {ccd : Value} {cl : List (Str × Addr)} {outer : List Env} {A₀ : Around} {base h₀ : Heap} {L : Addr} {m : Str → Option Value} {s : Shared} {Q E : Value → Shared → Prop}
    (B : Below A₀ base outer h₀) (F : Fr h₀ L s.heap m) (X : (hd.heap_1 w.params).In h₀) (N : News h₀ L s.heap full) (T : Top p loose mean mg mb h₀) (hk : cs.kind = .function)
    (hM : Mach w mx hl sl r5) (m1 : (th, instObj 94 dt) ∈ r5) (m2 : (dt, dictOf es nT) ∈ r5) (hw : getL "wait" es = some (some (Value.ref wt))) (m3 : (wt, tupOf [.str "await" tw, .ref kl, .ref evl, .ref la] 0) ∈ r5) (hr : ∀ p ∈ r5, p ∈ full) (off : OwnOff r5 [hl, la, lb])
    (m4 : (hl, ho) ∈ full) (n1 : @Ne Nat hl la) (m5 : (la, listOf (evs.map (lastV k0)).toArray n) ∈ full) (hd0 : ho.IsDictOf (intKind prg w) k1) (hev : EvsAt r5 evl evs) (hok : ∀ e ∈ evs, EvOk nk e) (hlen : evs.length ≤ 4) (hh0 : HeldOk nk k0 v0 r5) (hh1 : HeldOk nk k1 v1 r5)
    (hdp : dp + 8 < recursionLimit) (hun : un + 256 < cLine)
    (k : ∀ n' r6 h' tk', Fr h₀ L h' m → News h₀ L h' ((la, listOf (evs.map (lastV k1)).toArray n') :: r6) → (∀ p ∈ full, @Ne Nat p.1 la → p ∈ r6) → OwnOff r6 [la] → Q (.bool (comeB evs v0 v1)) { s with heap := h', toks := tk' }) :
    wpAny (model prg w) (ktrTop dp un gd cn cs L a ccd cl outer) (call (.ref 70) [.ref mx, .ref th]) Q E s := by
  have put : ∀ p ∈ full, @Ne Nat p.1 la → p ∈ but full [la] := fun p hp a1 => mem_but hp (by
    intro b hb
    rw [List.mem_singleton.mp hb]
    exact a1)
  have hrB : ∀ p ∈ r5, p ∈ but full [la] := fun p hp => put p (hr p hp) (off p hp _ (by simp))
  refine Ctr.use B F X (cb_drop N ?_ : News h₀ L s.heap ((la, listOf (evs.map (lastV k0)).toArray n) :: but full [la])) T hk
    (come_c w nk mx th dt evl hl sl wt la kl ho k0 k1 v0 v1 es nT n tw _ evs (hM.mono hrB) (hrB _ m1) (hrB _ m2) hw (hrB _ m3) (put _ m4 n1) hd0 (hev.mono hrB) hok hlen (hh0.mono hrB) (hh1.mono hrB) but_off) hdp hun ?_
  · intro p hp
    rcases List.mem_cons.mp hp with rfl | hp
    · exact m5
    · exact but_sub p hp
  · rintro r news' h' tk' F' N' ⟨n', rfl, rfl⟩
    exact k n' _ h' tk' F' N' put but_off
theorem begin_w {w : World} {nk : Int} {mx th dt evl hl sl : Addr} {ho : Obj} {kvs : List (Int × Value)} {hv : Int → V3} {es : List DictEntry} {nT n : Nat} {w0 : Value} {r2 full : Led} {evs : List Ev}
    {p : Program} {loose : List Str} {mean : ExcName → Option Value} {mg mb : Str → Option Value} {dp un : Nat} {gd : Option (List Code)} {cn : Str} {cs : Scope} {a : Addr} {ccd : Value} {cl : List (Str × Addr)} {outer : List Env} {A₀ : Around} {base h₀ : Heap} {L : Addr} {m : Str → Option Value} {s : Shared} {Q E : Value → Shared → Prop}
    (B : Below A₀ base outer h₀) (F : Fr h₀ L s.heap m) (X : (hd.heap_1 w.params).In h₀) (N : News h₀ L s.heap full) (T : Top p loose mean mg mb h₀) (hk : cs.kind = .function)
    (hM : Mach w mx hl sl r2) (hr : ∀ p ∈ r2, p ∈ full) (off : OwnOff r2 [sl, dt]) (m1 : (th, instObj 94 dt) ∈ full) (m2 : (hl, ho) ∈ full) (m3 : (sl, listOf [].toArray n) ∈ full) (m4 : (dt, dictOf es nT) ∈ full)
    (hd0 : ho.IsDictOf (intKind prg w) kvs) (hev : EvsAt r2 evl evs) (hok : ∀ e ∈ evs, EvOk nk e) (hlen : evs.length ≤ 4) (hheld : HeldOk nk kvs hv r2)
    (n1 : @Ne Nat sl dt) (n2 : @Ne Nat th sl ∧ @Ne Nat th dt) (n3 : @Ne Nat hl sl ∧ @Ne Nat hl dt) (hw : getL "wait" es = some (some w0)) (hes : es.length ≤ 50)
    (hdp : dp + 8 < recursionLimit) (hun : un + 256 < cLine)
    (k : ∀ nl n1 es' nT' la n2 r3 wt tw kl vk nk1 ks vk2 nk2 h' tk', Fr h₀ L h' m → News h₀ L h' ((sl, listOf [Value.ref nl].toArray n1) :: (dt, dictOf es' nT') :: (la, listOf (evs.map (lastV kvs)).toArray n2) :: r3) →
      getL "wait" es' = some (some (Value.ref wt)) → (wt, tupOf [.str "await" tw, .ref kl, .ref evl, .ref la] 0) ∈ r3 → (kl, listOf vk.toArray nk1) ∈ r3 → IntsAre vk ks → (nl, listOf vk2.toArray nk2) ∈ r3 → IntsAre vk2 ks → KeysOf ks evs →
      OwnOff r3 [sl, dt, la] → @Ne Nat la sl → @Ne Nat la dt → (∀ p ∈ full, @Ne Nat p.1 sl → @Ne Nat p.1 dt → p ∈ r3) → Q .none { s with heap := h', toks := tk' }) :
    wpAny (model prg w) (ktrTop dp un gd cn cs L a ccd cl outer) (call (.ref 77) [.ref mx, .ref th, .ref evl]) Q E s := by
  have put : ∀ p ∈ full, @Ne Nat p.1 sl → @Ne Nat p.1 dt → p ∈ but full [sl, dt] := fun p hp a1 a2 => mem_but hp (by
    intro b hb
    simp only [List.mem_cons, List.mem_nil_iff, or_false] at hb
    rcases hb with rfl | rfl
    · exact a1
    · exact a2)
  have hrB : ∀ p ∈ r2, p ∈ but full [sl, dt] := fun p hp => put p (hr p hp) (off p hp _ (by simp)) (off p hp _ (by simp))
  refine Ctr.use B F X (cb_drop N ?_ : News h₀ L s.heap ((sl, listOf [].toArray n) :: (dt, dictOf es nT) :: but full [sl, dt])) T hk
    (begin_c w nk mx th dt evl hl sl ho kvs hv es nT n w0 _ evs (hM.mono hrB) (put _ m1 n2.1 n2.2) (put _ m2 n3.1 n3.2) hd0 (hev.mono hrB) hok hlen (hheld.mono hrB) but_off n1 hw hes) hdp hun ?_
  · intro p hp
    rcases List.mem_cons.mp hp with rfl | hp
    · exact m3
    · rcases List.mem_cons.mp hp with rfl | hp
      · exact m4
      · exact but_sub p hp
  · rintro r news' h' tk' F' N' ⟨nl, n1', es', nT', la, n2', nw, wt, tw, kl, vk, nk1, ks, vk2, nk2, rfl, rfl, g1, g2, g3, g4, g5, g6, g7, g8, g9, ga, gb, gc⟩
    refine k nl n1' es' nT' la n2' _ wt tw kl vk nk1 ks vk2 nk2 h' tk' F' N' g1 (List.mem_append.mpr (.inl g3)) (List.mem_append.mpr (.inl g4)) g5 (List.mem_append.mpr (.inl g6)) g7 g8 ?_ ga gb fun p hp a1 a2 => List.mem_append.mpr (.inr (put p hp a1 a2))
    intro p hp b hb
    rcases List.mem_append.mp hp with h | h
    · have z := g9 p h
      simp only [List.mem_cons, List.mem_nil_iff, or_false] at hb
      rcases hb with rfl | rfl | rfl
      · exact z.2.1
      · exact z.2.2
      · exact z.1
    · simp only [List.mem_cons, List.mem_nil_iff, or_false] at hb
      rcases hb with rfl | rfl | rfl
      · exact but_off p h _ (by simp)
      · exact but_off p h _ (by simp)
      · exact gc p h
set_option maxRecDepth 100000 in
set_option maxHeartbeats 8000000 in
theorem wait_c (w : World) (nk : Int) (P : V3 → Prop) (hl evl chl : Addr) (ho : Obj) (kvs : List (Int × Value)) (hv : Int → V3) (ps : Array Value) (rest : Led) (evs : List Ev) (vch : List Value) (nch : Nat)
    (hd0 : ho.IsDictOf (intKind prg w) kvs) (hkl : kvs.length ≤ 10) (hev : EvsAt rest evl evs) (hok : ∀ e ∈ evs, EvOk nk e) (hlen : evs.length ≤ 4) (hheld : HeldOk nk kvs hv rest) (hP : ∀ k, 0 ≤ k → k < nk → P (hv k)) (hch : (chl, listOf vch.toArray nch) ∈ rest) (hcl : vch.length ≤ 8)
    (hrow : ∀ v ∈ vch, RowAt w nk P rest v) (hT : TabS ps rest) (off : OwnOff rest [128, hl]) (hne : @Ne Nat hl 128) :
    Ctr w 138 [.ref hl, .ref evl, .ref chl] 16 512 ((128, tabObj ps) :: (hl, ho) :: rest) (WaitPost w nk P hl rest) := by
    intro p loose mean mg mb dp un gd cn cs a ccd cl outer A₀ base h₀ L m s Q E B F X N T hk hd hu hret
    have hM := kdMark
    refine wpAny_call ?_
    k_dflt (refine' code_defC ?k1 ?k2 ?k3 ?k4 ?k5 ?kA ?kF ?kK ?k6 ?k7 ?k8 ?k9 ?kB ?kD ?_ ?c2 ?c3 ?c4; (case kA => exact rfl); (case kF => exact rfl); (case kK => assumption); (case k1 => k_asm); (case k2 => k_asm); (case k3 => k_asm); (case k4 => k_asm); (case k5 => k_asm); (case k6 => k_is); (case k7 => k_is); (case k8 => ktr_room); (case k9 => first | exact BindsTo.of_eq rfl | exact binds_K (by k_in) rfl (by k_is) rfl rfl rfl); (case kB => exact rfl); (case kD => decide +kernel); (case c2 => exact rfl); (case c3 => exact rfl); (case c4 => exact rfl); k_whole; intro g' L' h' tk' cells' FG' F' N' Y' B' X' T' l1; (try k_lt l1); k_cells Y'; (try simp only [List.cons_append, List.nil_append] at N'); (try dsimp only); (try k_lift B'); (try k_fold))
    repeat' ((fail_if_success (with_reducible show wpAny _ _ (call (Value.ref 133) _) _ _ _)); (first | (k_unfold; (try dsimp only)) | (k_end; wrow_close) | (((with_reducible show wpAny _ _ (subscriptTail _ _ (Value.ref _) (Value.int _ _)) _ _ _); k_dflt (refine' kda_item (knd := PySem.intKind _ _) ?zzN ?zzm ?zzd ?zzk ?zzv ?_ ?zzhs ?zzhg; (case zzN => k_asm); (case zzm => k_mem); (case zzd => assumption); (case zzk => exact intKind_is _ _ _ _); (case zzv => assumption); (case zzhs => with_unfolding_all rfl); (case zzhg => (intro _; with_unfolding_all rfl)); k_whole))) | ((with_reducible show wpAny _ _ (PySem.setItem (Value.ref _) (Value.int _ _) _) _ _ _); (k_dflt (refine' kda_set (knd := PySem.intKind _ _) ?zzF ?zzN ?zzU ?zzd (intKind_is _ _ _ _) ?zzz ?_; (case zzF => k_asm); (case zzN => k_asm); (case zzU => k_updF); (case zzd => assumption); (case zzz => rw [sizeLine_eq]; omega)); intro h' o' F' N' hd'; (try dsimp only at N'))) | (((with_reducible show wpAny _ _ (call (Value.ref 126) _) _ _ _); k_dflt (refine' Ctr.use ?zzk1 ?zzk2 ?zzk3 ?zzk4 ?zzk5 ?zzkK (came_c _ _ _ _ ?zzq0 _ _ _ _ _ _ _ _ ?zzq1 ?zza0 ?zza1 ?zzb0 ?zzb1 _ _ _ _ _ _ _ _ ?zzq2 ?zzc0 ?zzc1 ?zzd0 ?zzd1) ?zzkd ?zzku ?_; (case zzk1 => k_asm); (case zzk2 => k_asm); (case zzk3 => k_asm); (case zzk4 => k_asm); (case zzk5 => k_asm); (case zzkK => first | exact rfl | assumption); (case zzq0 => assumption); (case zzq1 => k_mem); (case zzq2 => k_mem); (case zza0 => assumption); (case zza1 => assumption); (case zzb0 => assumption); (case zzb1 => assumption); (case zzc0 => assumption); (case zzc1 => assumption); (case zzd0 => assumption); (case zzd1 => assumption); (case zzkd => ktr_room); (case zzku => ktr_units)); intro r9 n9 h9 tk9 F9 N9 e9; obtain ⟨e8, e7⟩ := e9; subst e7; subst e8; (try dsimp only); (try k_fold); (try k_sweep); walk_say "CALL 126")) | ((with_reducible show wpAny _ _ (PySem.setItem (Value.ref _) (Value.int _ _) _) _ _ _); (k_dflt (refine' list_set ?zzF ?zzN ?zzU ?zzh0 ?zzh1 ?zzh2 ?_; (case zzF => k_asm); (case zzN => k_asm); (case zzU => k_upd); (case zzh0 => omega); (case zzh1 => omega); (case zzh2 => omega)); intro h' F' N'; (try dsimp only at N'))) | (((with_reducible show wpAny _ _ (subscriptTail _ _ (Value.ref _) (Value.int _ _)) _ _ _); k_dflt (refine' list_at ?zzN ?zzm ?zzh0 ?zzh1 ?zze ?_ ?zzhs ?zzhg; (case zzN => k_asm); (case zzm => k_mem); (case zze => assumption); (case zzh0 => omega); (case zzh1 => omega); (case zzhs => with_unfolding_all rfl); (case zzhg => (intro _; with_unfolding_all rfl)); k_whole))) | ((with_reducible show wpAny _ _ (PySem.callWith _ (Value.ref _) _ _ _) _ _ _); (k_dflt (refine' callWith_F ?zzk1 ?_; (case zzk1 => exact FnAt.of (by k_asm) (by k_mem)); k_whole))) | ((with_reducible show wpAny _ _ (PySem.getAttr (Value.ref _) _ _) _ _ _); (k_dflt (refine' get_own ?zzk1 ?zzk2 ?zzk3 ?zzk4 ?zzk5 ?zzk6 ?zzk7 ?zzk8 ?zzk9 ?_; (case zzk1 => k_asm); (case zzk2 => k_asm); (case zzk3 => k_inst); (case zzk4 => k_is); (case zzk5 => k_is); (case zzk6 => k_is); (case zzk7 => k_is); (case zzk8 => first | assumption | k_get); (case zzk9 => k_handed); k_whole))) | (((with_reducible show wpAny _ _ (call (Value.builtin "len") [Value.ref _]) _ _ _); k_dflt (refine' len_M ?zzN ?zzm ?zzf ?_; (case zzN => k_asm); (case zzm => k_mem); (case zzf => omega); k_whole))) | ((with_reducible show wpAny _ _ (PySem.execs (_ :: _) _) _ _ _); ((with_reducible refine wpAny_execs_cons ?_); (try dsimp only); (try k_fold))) | walk1 | (dsimp only; (first | (((with_reducible show wpAny _ _ (subscriptTail _ _ (Value.ref _) (Value.int _ _)) _ _ _); k_dflt (refine' kda_item (knd := PySem.intKind _ _) ?zzN ?zzm ?zzd ?zzk ?zzv ?_ ?zzhs ?zzhg; (case zzN => k_asm); (case zzm => k_mem); (case zzd => assumption); (case zzk => exact intKind_is _ _ _ _); (case zzv => assumption); (case zzhs => with_unfolding_all rfl); (case zzhg => (intro _; with_unfolding_all rfl)); k_whole))) | ((with_reducible show wpAny _ _ (PySem.setItem (Value.ref _) (Value.int _ _) _) _ _ _); (k_dflt (refine' kda_set (knd := PySem.intKind _ _) ?zzF ?zzN ?zzU ?zzd (intKind_is _ _ _ _) ?zzz ?_; (case zzF => k_asm); (case zzN => k_asm); (case zzU => k_updF); (case zzd => assumption); (case zzz => rw [sizeLine_eq]; omega)); intro h' o' F' N' hd'; (try dsimp only at N'))) | (((with_reducible show wpAny _ _ (call (Value.ref 126) _) _ _ _); k_dflt (refine' Ctr.use ?zzk1 ?zzk2 ?zzk3 ?zzk4 ?zzk5 ?zzkK (came_c _ _ _ _ ?zzq0 _ _ _ _ _ _ _ _ ?zzq1 ?zza0 ?zza1 ?zzb0 ?zzb1 _ _ _ _ _ _ _ _ ?zzq2 ?zzc0 ?zzc1 ?zzd0 ?zzd1) ?zzkd ?zzku ?_; (case zzk1 => k_asm); (case zzk2 => k_asm); (case zzk3 => k_asm); (case zzk4 => k_asm); (case zzk5 => k_asm); (case zzkK => first | exact rfl | assumption); (case zzq0 => assumption); (case zzq1 => k_mem); (case zzq2 => k_mem); (case zza0 => assumption); (case zza1 => assumption); (case zzb0 => assumption); (case zzb1 => assumption); (case zzc0 => assumption); (case zzc1 => assumption); (case zzd0 => assumption); (case zzd1 => assumption); (case zzkd => ktr_room); (case zzku => ktr_units)); intro r9 n9 h9 tk9 F9 N9 e9; obtain ⟨e8, e7⟩ := e9; subst e7; subst e8; (try dsimp only); (try k_fold); (try k_sweep); walk_say "CALL 126")) | ((with_reducible show wpAny _ _ (PySem.setItem (Value.ref _) (Value.int _ _) _) _ _ _); (k_dflt (refine' list_set ?zzF ?zzN ?zzU ?zzh0 ?zzh1 ?zzh2 ?_; (case zzF => k_asm); (case zzN => k_asm); (case zzU => k_upd); (case zzh0 => omega); (case zzh1 => omega); (case zzh2 => omega)); intro h' F' N'; (try dsimp only at N'))) | (((with_reducible show wpAny _ _ (subscriptTail _ _ (Value.ref _) (Value.int _ _)) _ _ _); k_dflt (refine' list_at ?zzN ?zzm ?zzh0 ?zzh1 ?zze ?_ ?zzhs ?zzhg; (case zzN => k_asm); (case zzm => k_mem); (case zze => assumption); (case zzh0 => omega); (case zzh1 => omega); (case zzhs => with_unfolding_all rfl); (case zzhg => (intro _; with_unfolding_all rfl)); k_whole))) | ((with_reducible show wpAny _ _ (PySem.callWith _ (Value.ref _) _ _ _) _ _ _); (k_dflt (refine' callWith_F ?zzk1 ?_; (case zzk1 => exact FnAt.of (by k_asm) (by k_mem)); k_whole))) | ((with_reducible show wpAny _ _ (PySem.getAttr (Value.ref _) _ _) _ _ _); (k_dflt (refine' get_own ?zzk1 ?zzk2 ?zzk3 ?zzk4 ?zzk5 ?zzk6 ?zzk7 ?zzk8 ?zzk9 ?_; (case zzk1 => k_asm); (case zzk2 => k_asm); (case zzk3 => k_inst); (case zzk4 => k_is); (case zzk5 => k_is); (case zzk6 => k_is); (case zzk7 => k_is); (case zzk8 => first | assumption | k_get); (case zzk9 => k_handed); k_whole))) | (((with_reducible show wpAny _ _ (call (Value.builtin "len") [Value.ref _]) _ _ _); k_dflt (refine' len_M ?zzN ?zzm ?zzf ?_; (case zzN => k_asm); (case zzm => k_mem); (case zzf => omega); k_whole))) | ((with_reducible show wpAny _ _ (PySem.execs (_ :: _) _) _ _ _); ((with_reducible refine wpAny_execs_cons ?_); (try dsimp only); (try k_fold))) | walk1)) | (leave1; walk_say "STEP leave1"; try dsimp only)))
    (rename News _ _ _ _ => lN)
    obtain ⟨sl, esl⟩ := news_hd lN
    subst esl
    refine' machine_w ?k1 ?k2 ?k3 ?k4 ?k5 ?kK ?m1 ?m2 ?m3 ?hr hT off ?hsl hne ?h2 ?h3 ?kd ?ku ?_
    case k1 => k_asm
    case k2 => k_asm
    case k3 => k_asm
    case k4 => k_asm
    case k5 => k_asm
    case kK => first | exact rfl | assumption
    case m1 => k_mem
    case m2 => k_mem
    case m3 => k_mem
    case hr => intro p hp; simp only [List.mem_cons, hp, or_true]
    case h2 => show @Ne Nat _ _; omega
    case h3 => show @Ne Nat _ _; omega
    case hsl => exact And.right (And.right (And.right (And.right (by assumption))))
    case kd => ktr_room
    case ku => ktr_units
    have hltS := (by assumption : _ ∧ _ ∧ @LT.lt Nat _ 128 sl ∧ @LT.lt Nat _ hl sl ∧ AllLt sl rest)
    obtain ⟨hl1, hl2, hl3, hl4, hl5⟩ := hltS
    intro x ps2 r2 h2 tk2 F2 N2 hMa hTb off2 hup
    have c1 := hup _ (List.Mem.tail _ (List.Mem.head _)) (by show @Ne Nat _ _; omega) (by show @Ne Nat _ _; omega) (by show @Ne Nat _ _; omega)
    have c2 := hup _ (List.Mem.tail _ (List.Mem.tail _ (List.Mem.head _))) (by show @Ne Nat _ _; omega) (by show @Ne Nat _ _; omega) (by show @Ne Nat _ _; omega)
    have hsub : ∀ p ∈ rest, p ∈ r2 := fun p hp => hup p (by simp only [List.mem_cons, hp, or_true]) (off p hp _ (by simp)) (off p hp _ (by simp)) (Nat.ne_of_lt (tb_ltOf hl5 p hp))
    clear hup lN
    repeat' ((fail_if_success (with_reducible show wpAny _ _ (call (Value.ref 133) _) _ _ _)); (fail_if_success (with_reducible show wpAny _ _ (call (Value.ref 77) _) _ _ _)); (first | (k_unfold; (try dsimp only)) | (k_end; wrow_close) | (((with_reducible show wpAny _ _ (subscriptTail _ _ (Value.ref _) (Value.int _ _)) _ _ _); k_dflt (refine' kda_item (knd := PySem.intKind _ _) ?zzN ?zzm ?zzd ?zzk ?zzv ?_ ?zzhs ?zzhg; (case zzN => k_asm); (case zzm => k_mem); (case zzd => assumption); (case zzk => exact intKind_is _ _ _ _); (case zzv => assumption); (case zzhs => with_unfolding_all rfl); (case zzhg => (intro _; with_unfolding_all rfl)); k_whole))) | ((with_reducible show wpAny _ _ (PySem.setItem (Value.ref _) (Value.int _ _) _) _ _ _); (k_dflt (refine' kda_set (knd := PySem.intKind _ _) ?zzF ?zzN ?zzU ?zzd (intKind_is _ _ _ _) ?zzz ?_; (case zzF => k_asm); (case zzN => k_asm); (case zzU => k_updF); (case zzd => assumption); (case zzz => rw [sizeLine_eq]; omega)); intro h' o' F' N' hd'; (try dsimp only at N'))) | (((with_reducible show wpAny _ _ (call (Value.ref 126) _) _ _ _); k_dflt (refine' Ctr.use ?zzk1 ?zzk2 ?zzk3 ?zzk4 ?zzk5 ?zzkK (came_c _ _ _ _ ?zzq0 _ _ _ _ _ _ _ _ ?zzq1 ?zza0 ?zza1 ?zzb0 ?zzb1 _ _ _ _ _ _ _ _ ?zzq2 ?zzc0 ?zzc1 ?zzd0 ?zzd1) ?zzkd ?zzku ?_; (case zzk1 => k_asm); (case zzk2 => k_asm); (case zzk3 => k_asm); (case zzk4 => k_asm); (case zzk5 => k_asm); (case zzkK => first | exact rfl | assumption); (case zzq0 => assumption); (case zzq1 => k_mem); (case zzq2 => k_mem); (case zza0 => assumption); (case zza1 => assumption); (case zzb0 => assumption); (case zzb1 => assumption); (case zzc0 => assumption); (case zzc1 => assumption); (case zzd0 => assumption); (case zzd1 => assumption); (case zzkd => ktr_room); (case zzku => ktr_units)); intro r9 n9 h9 tk9 F9 N9 e9; obtain ⟨e8, e7⟩ := e9; subst e7; subst e8; (try dsimp only); (try k_fold); (try k_sweep); walk_say "CALL 126")) | ((with_reducible show wpAny _ _ (PySem.setItem (Value.ref _) (Value.int _ _) _) _ _ _); (k_dflt (refine' list_set ?zzF ?zzN ?zzU ?zzh0 ?zzh1 ?zzh2 ?_; (case zzF => k_asm); (case zzN => k_asm); (case zzU => k_upd); (case zzh0 => omega); (case zzh1 => omega); (case zzh2 => omega)); intro h' F' N'; (try dsimp only at N'))) | (((with_reducible show wpAny _ _ (subscriptTail _ _ (Value.ref _) (Value.int _ _)) _ _ _); k_dflt (refine' list_at ?zzN ?zzm ?zzh0 ?zzh1 ?zze ?_ ?zzhs ?zzhg; (case zzN => k_asm); (case zzm => k_mem); (case zze => assumption); (case zzh0 => omega); (case zzh1 => omega); (case zzhs => with_unfolding_all rfl); (case zzhg => (intro _; with_unfolding_all rfl)); k_whole))) | ((with_reducible show wpAny _ _ (PySem.callWith _ (Value.ref _) _ _ _) _ _ _); (k_dflt (refine' callWith_F ?zzk1 ?_; (case zzk1 => exact FnAt.of (by k_asm) (by k_mem)); k_whole))) | ((with_reducible show wpAny _ _ (PySem.getAttr (Value.ref _) _ _) _ _ _); (k_dflt (refine' get_own ?zzk1 ?zzk2 ?zzk3 ?zzk4 ?zzk5 ?zzk6 ?zzk7 ?zzk8 ?zzk9 ?_; (case zzk1 => k_asm); (case zzk2 => k_asm); (case zzk3 => k_inst); (case zzk4 => k_is); (case zzk5 => k_is); (case zzk6 => k_is); (case zzk7 => k_is); (case zzk8 => first | assumption | k_get); (case zzk9 => k_handed); k_whole))) | (((with_reducible show wpAny _ _ (call (Value.builtin "len") [Value.ref _]) _ _ _); k_dflt (refine' len_M ?zzN ?zzm ?zzf ?_; (case zzN => k_asm); (case zzm => k_mem); (case zzf => omega); k_whole))) | ((with_reducible show wpAny _ _ (PySem.execs (_ :: _) _) _ _ _); ((with_reducible refine wpAny_execs_cons ?_); (try dsimp only); (try k_fold))) | walk1 | (dsimp only; (first | (((with_reducible show wpAny _ _ (subscriptTail _ _ (Value.ref _) (Value.int _ _)) _ _ _); k_dflt (refine' kda_item (knd := PySem.intKind _ _) ?zzN ?zzm ?zzd ?zzk ?zzv ?_ ?zzhs ?zzhg; (case zzN => k_asm); (case zzm => k_mem); (case zzd => assumption); (case zzk => exact intKind_is _ _ _ _); (case zzv => assumption); (case zzhs => with_unfolding_all rfl); (case zzhg => (intro _; with_unfolding_all rfl)); k_whole))) | ((with_reducible show wpAny _ _ (PySem.setItem (Value.ref _) (Value.int _ _) _) _ _ _); (k_dflt (refine' kda_set (knd := PySem.intKind _ _) ?zzF ?zzN ?zzU ?zzd (intKind_is _ _ _ _) ?zzz ?_; (case zzF => k_asm); (case zzN => k_asm); (case zzU => k_updF); (case zzd => assumption); (case zzz => rw [sizeLine_eq]; omega)); intro h' o' F' N' hd'; (try dsimp only at N'))) | (((with_reducible show wpAny _ _ (call (Value.ref 126) _) _ _ _); k_dflt (refine' Ctr.use ?zzk1 ?zzk2 ?zzk3 ?zzk4 ?zzk5 ?zzkK (came_c _ _ _ _ ?zzq0 _ _ _ _ _ _ _ _ ?zzq1 ?zza0 ?zza1 ?zzb0 ?zzb1 _ _ _ _ _ _ _ _ ?zzq2 ?zzc0 ?zzc1 ?zzd0 ?zzd1) ?zzkd ?zzku ?_; (case zzk1 => k_asm); (case zzk2 => k_asm); (case zzk3 => k_asm); (case zzk4 => k_asm); (case zzk5 => k_asm); (case zzkK => first | exact rfl | assumption); (case zzq0 => assumption); (case zzq1 => k_mem); (case zzq2 => k_mem); (case zza0 => assumption); (case zza1 => assumption); (case zzb0 => assumption); (case zzb1 => assumption); (case zzc0 => assumption); (case zzc1 => assumption); (case zzd0 => assumption); (case zzd1 => assumption); (case zzkd => ktr_room); (case zzku => ktr_units)); intro r9 n9 h9 tk9 F9 N9 e9; obtain ⟨e8, e7⟩ := e9; subst e7; subst e8; (try dsimp only); (try k_fold); (try k_sweep); walk_say "CALL 126")) | ((with_reducible show wpAny _ _ (PySem.setItem (Value.ref _) (Value.int _ _) _) _ _ _); (k_dflt (refine' list_set ?zzF ?zzN ?zzU ?zzh0 ?zzh1 ?zzh2 ?_; (case zzF => k_asm); (case zzN => k_asm); (case zzU => k_upd); (case zzh0 => omega); (case zzh1 => omega); (case zzh2 => omega)); intro h' F' N'; (try dsimp only at N'))) | (((with_reducible show wpAny _ _ (subscriptTail _ _ (Value.ref _) (Value.int _ _)) _ _ _); k_dflt (refine' list_at ?zzN ?zzm ?zzh0 ?zzh1 ?zze ?_ ?zzhs ?zzhg; (case zzN => k_asm); (case zzm => k_mem); (case zze => assumption); (case zzh0 => omega); (case zzh1 => omega); (case zzhs => with_unfolding_all rfl); (case zzhg => (intro _; with_unfolding_all rfl)); k_whole))) | ((with_reducible show wpAny _ _ (PySem.callWith _ (Value.ref _) _ _ _) _ _ _); (k_dflt (refine' callWith_F ?zzk1 ?_; (case zzk1 => exact FnAt.of (by k_asm) (by k_mem)); k_whole))) | ((with_reducible show wpAny _ _ (PySem.getAttr (Value.ref _) _ _) _ _ _); (k_dflt (refine' get_own ?zzk1 ?zzk2 ?zzk3 ?zzk4 ?zzk5 ?zzk6 ?zzk7 ?zzk8 ?zzk9 ?_; (case zzk1 => k_asm); (case zzk2 => k_asm); (case zzk3 => k_inst); (case zzk4 => k_is); (case zzk5 => k_is); (case zzk6 => k_is); (case zzk7 => k_is); (case zzk8 => first | assumption | k_get); (case zzk9 => k_handed); k_whole))) | (((with_reducible show wpAny _ _ (call (Value.builtin "len") [Value.ref _]) _ _ _); k_dflt (refine' len_M ?zzN ?zzm ?zzf ?_; (case zzN => k_asm); (case zzm => k_mem); (case zzf => omega); k_whole))) | ((with_reducible show wpAny _ _ (PySem.execs (_ :: _) _) _ _ _); ((with_reducible refine wpAny_execs_cons ?_); (try dsimp only); (try k_fold))) | walk1)) | (leave1; walk_say "STEP leave1"; try dsimp only)))
    (rename News _ _ _ (_ :: _ :: _ :: _ :: _ :: _) => lN)
    obtain ⟨th, eth⟩ := news_hd (news_tl (news_tl (news_tl lN)))
    obtain ⟨dt, edt⟩ := news_hd (news_tl (news_tl (news_tl (news_tl lN))))
    subst eth
    subst edt
    have hltD := (by assumption : @LT.lt Nat _ _ dt ∧ _ ∧ @LT.lt Nat _ 128 dt ∧ @LT.lt Nat _ hl dt ∧ @LT.lt Nat _ sl dt ∧ AllLt dt r2)
    obtain ⟨_, _, hd3, hd4, hd5, hd6⟩ := hltD
    refine' begin_w ?k1 ?k2 ?k3 ?k4 ?k5 ?kK hMa ?hr ?off ?m1 ?m2 ?m3 ?m4 hd0 (hev.mono hsub) hok hlen (hheld.mono hsub) ?n1 ?n2 ?n3 ?hw ?hes ?kd ?ku ?_
    case k1 => k_asm
    case k2 => k_asm
    case k3 => k_asm
    case k4 => k_asm
    case k5 => k_asm
    case kK => first | exact rfl | assumption
    case m1 => k_mem
    case m2 => k_mem
    case m3 => k_mem
    case m4 => k_mem
    case hr => intro p hp; simp only [List.mem_cons, hp, or_true]
    case off =>
      intro q hq b hb
      simp only [List.mem_cons, List.mem_nil_iff, or_false] at hb
      rcases hb with rfl | rfl
      · exact off2 q hq _ (by simp)
      · exact Nat.ne_of_lt (tb_ltOf hd6 q hq)
    case n1 => show @Ne Nat _ _; omega
    case n2 => constructor <;> (show @Ne Nat _ _; omega)
    case n3 => constructor <;> (show @Ne Nat _ _; omega)
    case hw => k_get
    case hes => exact Nat.le_of_ble_eq_true rfl
    case kd => ktr_room
    case ku => ktr_units
    intro nl n1 es' nT' la n2 r3 wt tw kl vk nk1 ks vk2 nk2 h3 tk3 F3 N3 hgw hwt hkl2 hik hnl hik2 hks off3 nla1 nla2 hup
    have q128 := hup (128, tabObj ps2) (by k_mem) (by show @Ne Nat _ _; omega) (by show @Ne Nat _ _; omega)
    have qhl := hup (hl, ho) (by k_mem) (by show @Ne Nat _ _; omega) (by show @Ne Nat _ _; omega)
    have qth := hup (th, instObj 94 dt) (by k_mem) (by show @Ne Nat _ _; omega) (by show @Ne Nat _ _; omega)
    have hsub2 : ∀ p ∈ r2, p ∈ r3 := fun p hp => hup p (by simp only [List.mem_cons, hp, or_true]) (off2 p hp _ (by simp)) (Nat.ne_of_lt (tb_ltOf hd6 p hp))
    have d1 := c1
    have d2 := c2
    replace c1 := hsub2 _ c1
    replace c2 := hsub2 _ c2
    have hsub3 : ∀ p ∈ rest, p ∈ r3 := fun p hp => hsub2 p (hsub p hp)
    clear hup lN
    obtain ⟨vsE, nE, hevl0, hD0⟩ := hev
    have hevl := hsub3 _ hevl0
    have hD := hD0.mono hsub3
    have hlE : vsE.length = evs.length := by rw [hD.length, List.length_map]
    repeat' ((fail_if_success (with_reducible show wpAny _ _ (PySem.eval (PySem.Expr.ListComp _ _ _ _) _) _ _ _)); (fail_if_success (with_reducible show wpAny _ _ (PySem.exec (PySem.Stmt.Assign _ (PySem.Expr.ListComp _ _ _ _) _) _) _ _ _)); (first | (k_unfold; (try dsimp only)) | (k_end; wrow_close) | (((with_reducible show wpAny _ _ (subscriptTail _ _ (Value.ref _) (Value.int _ _)) _ _ _); k_dflt (refine' kda_item (knd := PySem.intKind _ _) ?zzN ?zzm ?zzd ?zzk ?zzv ?_ ?zzhs ?zzhg; (case zzN => k_asm); (case zzm => k_mem); (case zzd => assumption); (case zzk => exact intKind_is _ _ _ _); (case zzv => assumption); (case zzhs => with_unfolding_all rfl); (case zzhg => (intro _; with_unfolding_all rfl)); k_whole))) | ((with_reducible show wpAny _ _ (PySem.setItem (Value.ref _) (Value.int _ _) _) _ _ _); (k_dflt (refine' kda_set (knd := PySem.intKind _ _) ?zzF ?zzN ?zzU ?zzd (intKind_is _ _ _ _) ?zzz ?_; (case zzF => k_asm); (case zzN => k_asm); (case zzU => k_updF); (case zzd => assumption); (case zzz => rw [sizeLine_eq]; omega)); intro h' o' F' N' hd'; (try dsimp only at N'))) | (((with_reducible show wpAny _ _ (call (Value.ref 126) _) _ _ _); k_dflt (refine' Ctr.use ?zzk1 ?zzk2 ?zzk3 ?zzk4 ?zzk5 ?zzkK (came_c _ _ _ _ ?zzq0 _ _ _ _ _ _ _ _ ?zzq1 ?zza0 ?zza1 ?zzb0 ?zzb1 _ _ _ _ _ _ _ _ ?zzq2 ?zzc0 ?zzc1 ?zzd0 ?zzd1) ?zzkd ?zzku ?_; (case zzk1 => k_asm); (case zzk2 => k_asm); (case zzk3 => k_asm); (case zzk4 => k_asm); (case zzk5 => k_asm); (case zzkK => first | exact rfl | assumption); (case zzq0 => assumption); (case zzq1 => k_mem); (case zzq2 => k_mem); (case zza0 => assumption); (case zza1 => assumption); (case zzb0 => assumption); (case zzb1 => assumption); (case zzc0 => assumption); (case zzc1 => assumption); (case zzd0 => assumption); (case zzd1 => assumption); (case zzkd => ktr_room); (case zzku => ktr_units)); intro r9 n9 h9 tk9 F9 N9 e9; obtain ⟨e8, e7⟩ := e9; subst e7; subst e8; (try dsimp only); (try k_fold); (try k_sweep); walk_say "CALL 126")) | ((with_reducible show wpAny _ _ (PySem.setItem (Value.ref _) (Value.int _ _) _) _ _ _); (k_dflt (refine' list_set ?zzF ?zzN ?zzU ?zzh0 ?zzh1 ?zzh2 ?_; (case zzF => k_asm); (case zzN => k_asm); (case zzU => k_upd); (case zzh0 => omega); (case zzh1 => omega); (case zzh2 => omega)); intro h' F' N'; (try dsimp only at N'))) | (((with_reducible show wpAny _ _ (subscriptTail _ _ (Value.ref _) (Value.int _ _)) _ _ _); k_dflt (refine' list_at ?zzN ?zzm ?zzh0 ?zzh1 ?zze ?_ ?zzhs ?zzhg; (case zzN => k_asm); (case zzm => k_mem); (case zze => assumption); (case zzh0 => omega); (case zzh1 => omega); (case zzhs => with_unfolding_all rfl); (case zzhg => (intro _; with_unfolding_all rfl)); k_whole))) | ((with_reducible show wpAny _ _ (PySem.callWith _ (Value.ref _) _ _ _) _ _ _); (k_dflt (refine' callWith_F ?zzk1 ?_; (case zzk1 => exact FnAt.of (by k_asm) (by k_mem)); k_whole))) | ((with_reducible show wpAny _ _ (PySem.getAttr (Value.ref _) _ _) _ _ _); (k_dflt (refine' get_own ?zzk1 ?zzk2 ?zzk3 ?zzk4 ?zzk5 ?zzk6 ?zzk7 ?zzk8 ?zzk9 ?_; (case zzk1 => k_asm); (case zzk2 => k_asm); (case zzk3 => k_inst); (case zzk4 => k_is); (case zzk5 => k_is); (case zzk6 => k_is); (case zzk7 => k_is); (case zzk8 => first | assumption | k_get); (case zzk9 => k_handed); k_whole))) | (((with_reducible show wpAny _ _ (call (Value.builtin "len") [Value.ref _]) _ _ _); k_dflt (refine' len_M ?zzN ?zzm ?zzf ?_; (case zzN => k_asm); (case zzm => k_mem); (case zzf => omega); k_whole))) | ((with_reducible show wpAny _ _ (PySem.execs (_ :: _) _) _ _ _); ((with_reducible refine wpAny_execs_cons ?_); (try dsimp only); (try k_fold))) | walk1 | (dsimp only; (first | (((with_reducible show wpAny _ _ (subscriptTail _ _ (Value.ref _) (Value.int _ _)) _ _ _); k_dflt (refine' kda_item (knd := PySem.intKind _ _) ?zzN ?zzm ?zzd ?zzk ?zzv ?_ ?zzhs ?zzhg; (case zzN => k_asm); (case zzm => k_mem); (case zzd => assumption); (case zzk => exact intKind_is _ _ _ _); (case zzv => assumption); (case zzhs => with_unfolding_all rfl); (case zzhg => (intro _; with_unfolding_all rfl)); k_whole))) | ((with_reducible show wpAny _ _ (PySem.setItem (Value.ref _) (Value.int _ _) _) _ _ _); (k_dflt (refine' kda_set (knd := PySem.intKind _ _) ?zzF ?zzN ?zzU ?zzd (intKind_is _ _ _ _) ?zzz ?_; (case zzF => k_asm); (case zzN => k_asm); (case zzU => k_updF); (case zzd => assumption); (case zzz => rw [sizeLine_eq]; omega)); intro h' o' F' N' hd'; (try dsimp only at N'))) | (((with_reducible show wpAny _ _ (call (Value.ref 126) _) _ _ _); k_dflt (refine' Ctr.use ?zzk1 ?zzk2 ?zzk3 ?zzk4 ?zzk5 ?zzkK (came_c _ _ _ _ ?zzq0 _ _ _ _ _ _ _ _ ?zzq1 ?zza0 ?zza1 ?zzb0 ?zzb1 _ _ _ _ _ _ _ _ ?zzq2 ?zzc0 ?zzc1 ?zzd0 ?zzd1) ?zzkd ?zzku ?_; (case zzk1 => k_asm); (case zzk2 => k_asm); (case zzk3 => k_asm); (case zzk4 => k_asm); (case zzk5 => k_asm); (case zzkK => first | exact rfl | assumption); (case zzq0 => assumption); (case zzq1 => k_mem); (case zzq2 => k_mem); (case zza0 => assumption); (case zza1 => assumption); (case zzb0 => assumption); (case zzb1 => assumption); (case zzc0 => assumption); (case zzc1 => assumption); (case zzd0 => assumption); (case zzd1 => assumption); (case zzkd => ktr_room); (case zzku => ktr_units)); intro r9 n9 h9 tk9 F9 N9 e9; obtain ⟨e8, e7⟩ := e9; subst e7; subst e8; (try dsimp only); (try k_fold); (try k_sweep); walk_say "CALL 126")) | ((with_reducible show wpAny _ _ (PySem.setItem (Value.ref _) (Value.int _ _) _) _ _ _); (k_dflt (refine' list_set ?zzF ?zzN ?zzU ?zzh0 ?zzh1 ?zzh2 ?_; (case zzF => k_asm); (case zzN => k_asm); (case zzU => k_upd); (case zzh0 => omega); (case zzh1 => omega); (case zzh2 => omega)); intro h' F' N'; (try dsimp only at N'))) | (((with_reducible show wpAny _ _ (subscriptTail _ _ (Value.ref _) (Value.int _ _)) _ _ _); k_dflt (refine' list_at ?zzN ?zzm ?zzh0 ?zzh1 ?zze ?_ ?zzhs ?zzhg; (case zzN => k_asm); (case zzm => k_mem); (case zze => assumption); (case zzh0 => omega); (case zzh1 => omega); (case zzhs => with_unfolding_all rfl); (case zzhg => (intro _; with_unfolding_all rfl)); k_whole))) | ((with_reducible show wpAny _ _ (PySem.callWith _ (Value.ref _) _ _ _) _ _ _); (k_dflt (refine' callWith_F ?zzk1 ?_; (case zzk1 => exact FnAt.of (by k_asm) (by k_mem)); k_whole))) | ((with_reducible show wpAny _ _ (PySem.getAttr (Value.ref _) _ _) _ _ _); (k_dflt (refine' get_own ?zzk1 ?zzk2 ?zzk3 ?zzk4 ?zzk5 ?zzk6 ?zzk7 ?zzk8 ?zzk9 ?_; (case zzk1 => k_asm); (case zzk2 => k_asm); (case zzk3 => k_inst); (case zzk4 => k_is); (case zzk5 => k_is); (case zzk6 => k_is); (case zzk7 => k_is); (case zzk8 => first | assumption | k_get); (case zzk9 => k_handed); k_whole))) | (((with_reducible show wpAny _ _ (call (Value.builtin "len") [Value.ref _]) _ _ _); k_dflt (refine' len_M ?zzN ?zzm ?zzf ?_; (case zzN => k_asm); (case zzm => k_mem); (case zzf => omega); k_whole))) | ((with_reducible show wpAny _ _ (PySem.execs (_ :: _) _) _ _ _); ((with_reducible refine wpAny_execs_cons ?_); (try dsimp only); (try k_fold))) | walk1)) | (leave1; walk_say "STEP leave1"; try dsimp only)))
    walk_at "eval ListComp"
    refine' PyProof.Rows.LCt.CompSrcT.range (n := 9) ?q1 ?q2 ?q3 ?q4 ?q5 ?q6 ?q7 ?_
    case q1 => rfl
    case q2 => k_asm
    case q3 => k_asm
    case q4 => assumption
    case q5 => decide
    case q6 => decide
    case q7 => decide
    intro g4
    (rename News _ _ _ _ => lN)
    refine' restT_all (fun i ys nx => nx = _ ∧ IntsAre ys (keyL evs i)) ?fin ?step 9 0 [] _ rfl ⟨rfl, .nil⟩
    case fin =>
      rintro ys nx ⟨enx, hys⟩
      subst enx
      repeat' ((fail_if_success (with_reducible show wpAny _ _ (PySem.eval (PySem.Expr.ListComp _ _ _ _) _) _ _ _)); (fail_if_success (with_reducible show wpAny _ _ (PySem.exec (PySem.Stmt.Assign _ (PySem.Expr.ListComp _ _ _ _) _) _) _ _ _)); (first | (k_unfold; (try dsimp only)) | (k_end; wrow_close) | (((with_reducible show wpAny _ _ (subscriptTail _ _ (Value.ref _) (Value.int _ _)) _ _ _); k_dflt (refine' kda_item (knd := PySem.intKind _ _) ?zzN ?zzm ?zzd ?zzk ?zzv ?_ ?zzhs ?zzhg; (case zzN => k_asm); (case zzm => k_mem); (case zzd => assumption); (case zzk => exact intKind_is _ _ _ _); (case zzv => assumption); (case zzhs => with_unfolding_all rfl); (case zzhg => (intro _; with_unfolding_all rfl)); k_whole))) | ((with_reducible show wpAny _ _ (PySem.setItem (Value.ref _) (Value.int _ _) _) _ _ _); (k_dflt (refine' kda_set (knd := PySem.intKind _ _) ?zzF ?zzN ?zzU ?zzd (intKind_is _ _ _ _) ?zzz ?_; (case zzF => k_asm); (case zzN => k_asm); (case zzU => k_updF); (case zzd => assumption); (case zzz => rw [sizeLine_eq]; omega)); intro h' o' F' N' hd'; (try dsimp only at N'))) | (((with_reducible show wpAny _ _ (call (Value.ref 126) _) _ _ _); k_dflt (refine' Ctr.use ?zzk1 ?zzk2 ?zzk3 ?zzk4 ?zzk5 ?zzkK (came_c _ _ _ _ ?zzq0 _ _ _ _ _ _ _ _ ?zzq1 ?zza0 ?zza1 ?zzb0 ?zzb1 _ _ _ _ _ _ _ _ ?zzq2 ?zzc0 ?zzc1 ?zzd0 ?zzd1) ?zzkd ?zzku ?_; (case zzk1 => k_asm); (case zzk2 => k_asm); (case zzk3 => k_asm); (case zzk4 => k_asm); (case zzk5 => k_asm); (case zzkK => first | exact rfl | assumption); (case zzq0 => assumption); (case zzq1 => k_mem); (case zzq2 => k_mem); (case zza0 => assumption); (case zza1 => assumption); (case zzb0 => assumption); (case zzb1 => assumption); (case zzc0 => assumption); (case zzc1 => assumption); (case zzd0 => assumption); (case zzd1 => assumption); (case zzkd => ktr_room); (case zzku => ktr_units)); intro r9 n9 h9 tk9 F9 N9 e9; obtain ⟨e8, e7⟩ := e9; subst e7; subst e8; (try dsimp only); (try k_fold); (try k_sweep); walk_say "CALL 126")) | ((with_reducible show wpAny _ _ (PySem.setItem (Value.ref _) (Value.int _ _) _) _ _ _); (k_dflt (refine' list_set ?zzF ?zzN ?zzU ?zzh0 ?zzh1 ?zzh2 ?_; (case zzF => k_asm); (case zzN => k_asm); (case zzU => k_upd); (case zzh0 => omega); (case zzh1 => omega); (case zzh2 => omega)); intro h' F' N'; (try dsimp only at N'))) | (((with_reducible show wpAny _ _ (subscriptTail _ _ (Value.ref _) (Value.int _ _)) _ _ _); k_dflt (refine' list_at ?zzN ?zzm ?zzh0 ?zzh1 ?zze ?_ ?zzhs ?zzhg; (case zzN => k_asm); (case zzm => k_mem); (case zze => assumption); (case zzh0 => omega); (case zzh1 => omega); (case zzhs => with_unfolding_all rfl); (case zzhg => (intro _; with_unfolding_all rfl)); k_whole))) | ((with_reducible show wpAny _ _ (PySem.callWith _ (Value.ref _) _ _ _) _ _ _); (k_dflt (refine' callWith_F ?zzk1 ?_; (case zzk1 => exact FnAt.of (by k_asm) (by k_mem)); k_whole))) | ((with_reducible show wpAny _ _ (PySem.getAttr (Value.ref _) _ _) _ _ _); (k_dflt (refine' get_own ?zzk1 ?zzk2 ?zzk3 ?zzk4 ?zzk5 ?zzk6 ?zzk7 ?zzk8 ?zzk9 ?_; (case zzk1 => k_asm); (case zzk2 => k_asm); (case zzk3 => k_inst); (case zzk4 => k_is); (case zzk5 => k_is); (case zzk6 => k_is); (case zzk7 => k_is); (case zzk8 => first | assumption | k_get); (case zzk9 => k_handed); k_whole))) | (((with_reducible show wpAny _ _ (call (Value.builtin "len") [Value.ref _]) _ _ _); k_dflt (refine' len_M ?zzN ?zzm ?zzf ?_; (case zzN => k_asm); (case zzm => k_mem); (case zzf => omega); k_whole))) | ((with_reducible show wpAny _ _ (PySem.execs (_ :: _) _) _ _ _); ((with_reducible refine wpAny_execs_cons ?_); (try dsimp only); (try k_fold))) | walk1 | (dsimp only; (first | (((with_reducible show wpAny _ _ (subscriptTail _ _ (Value.ref _) (Value.int _ _)) _ _ _); k_dflt (refine' kda_item (knd := PySem.intKind _ _) ?zzN ?zzm ?zzd ?zzk ?zzv ?_ ?zzhs ?zzhg; (case zzN => k_asm); (case zzm => k_mem); (case zzd => assumption); (case zzk => exact intKind_is _ _ _ _); (case zzv => assumption); (case zzhs => with_unfolding_all rfl); (case zzhg => (intro _; with_unfolding_all rfl)); k_whole))) | ((with_reducible show wpAny _ _ (PySem.setItem (Value.ref _) (Value.int _ _) _) _ _ _); (k_dflt (refine' kda_set (knd := PySem.intKind _ _) ?zzF ?zzN ?zzU ?zzd (intKind_is _ _ _ _) ?zzz ?_; (case zzF => k_asm); (case zzN => k_asm); (case zzU => k_updF); (case zzd => assumption); (case zzz => rw [sizeLine_eq]; omega)); intro h' o' F' N' hd'; (try dsimp only at N'))) | (((with_reducible show wpAny _ _ (call (Value.ref 126) _) _ _ _); k_dflt (refine' Ctr.use ?zzk1 ?zzk2 ?zzk3 ?zzk4 ?zzk5 ?zzkK (came_c _ _ _ _ ?zzq0 _ _ _ _ _ _ _ _ ?zzq1 ?zza0 ?zza1 ?zzb0 ?zzb1 _ _ _ _ _ _ _ _ ?zzq2 ?zzc0 ?zzc1 ?zzd0 ?zzd1) ?zzkd ?zzku ?_; (case zzk1 => k_asm); (case zzk2 => k_asm); (case zzk3 => k_asm); (case zzk4 => k_asm); (case zzk5 => k_asm); (case zzkK => first | exact rfl | assumption); (case zzq0 => assumption); (case zzq1 => k_mem); (case zzq2 => k_mem); (case zza0 => assumption); (case zza1 => assumption); (case zzb0 => assumption); (case zzb1 => assumption); (case zzc0 => assumption); (case zzc1 => assumption); (case zzd0 => assumption); (case zzd1 => assumption); (case zzkd => ktr_room); (case zzku => ktr_units)); intro r9 n9 h9 tk9 F9 N9 e9; obtain ⟨e8, e7⟩ := e9; subst e7; subst e8; (try dsimp only); (try k_fold); (try k_sweep); walk_say "CALL 126")) | ((with_reducible show wpAny _ _ (PySem.setItem (Value.ref _) (Value.int _ _) _) _ _ _); (k_dflt (refine' list_set ?zzF ?zzN ?zzU ?zzh0 ?zzh1 ?zzh2 ?_; (case zzF => k_asm); (case zzN => k_asm); (case zzU => k_upd); (case zzh0 => omega); (case zzh1 => omega); (case zzh2 => omega)); intro h' F' N'; (try dsimp only at N'))) | (((with_reducible show wpAny _ _ (subscriptTail _ _ (Value.ref _) (Value.int _ _)) _ _ _); k_dflt (refine' list_at ?zzN ?zzm ?zzh0 ?zzh1 ?zze ?_ ?zzhs ?zzhg; (case zzN => k_asm); (case zzm => k_mem); (case zze => assumption); (case zzh0 => omega); (case zzh1 => omega); (case zzhs => with_unfolding_all rfl); (case zzhg => (intro _; with_unfolding_all rfl)); k_whole))) | ((with_reducible show wpAny _ _ (PySem.callWith _ (Value.ref _) _ _ _) _ _ _); (k_dflt (refine' callWith_F ?zzk1 ?_; (case zzk1 => exact FnAt.of (by k_asm) (by k_mem)); k_whole))) | ((with_reducible show wpAny _ _ (PySem.getAttr (Value.ref _) _ _) _ _ _); (k_dflt (refine' get_own ?zzk1 ?zzk2 ?zzk3 ?zzk4 ?zzk5 ?zzk6 ?zzk7 ?zzk8 ?zzk9 ?_; (case zzk1 => k_asm); (case zzk2 => k_asm); (case zzk3 => k_inst); (case zzk4 => k_is); (case zzk5 => k_is); (case zzk6 => k_is); (case zzk7 => k_is); (case zzk8 => first | assumption | k_get); (case zzk9 => k_handed); k_whole))) | (((with_reducible show wpAny _ _ (call (Value.builtin "len") [Value.ref _]) _ _ _); k_dflt (refine' len_M ?zzN ?zzm ?zzf ?_; (case zzN => k_asm); (case zzm => k_mem); (case zzf => omega); k_whole))) | ((with_reducible show wpAny _ _ (PySem.execs (_ :: _) _) _ _ _); ((with_reducible refine wpAny_execs_cons ?_); (try dsimp only); (try k_fold))) | walk1)) | (leave1; walk_say "STEP leave1"; try dsimp only)))
      (rename News _ _ _ _ => lN5)
      refine' kso_sorted ?p1 lN5 ?p3 hys ?p5 ?_
      case p1 => k_asm
      case p3 => exact isListM lN5 (List.Mem.head _)
      case p5 => exact Nat.lt_of_le_of_lt (keyL_nodup _).2 (by decide)
      intro Dk vk3 ks3 c3 h5 F5 N5 l5 i5 e5 p5 o5 _
      have hK3 := keyL_keys hok p5 o5
      have ek : ks3 = ks := hK3.unique hks
      subst ek
      repeat' ((fail_if_success (with_reducible show wpAny _ _ (PySem.eval (PySem.Expr.ListComp _ _ _ _) _) _ _ _)); (fail_if_success (with_reducible show wpAny _ _ (PySem.exec (PySem.Stmt.Assign _ (PySem.Expr.ListComp _ _ _ _) _) _) _ _ _)); (first | (k_unfold; (try dsimp only)) | (k_end; wrow_close) | (((with_reducible show wpAny _ _ (subscriptTail _ _ (Value.ref _) (Value.int _ _)) _ _ _); k_dflt (refine' kda_item (knd := PySem.intKind _ _) ?zzN ?zzm ?zzd ?zzk ?zzv ?_ ?zzhs ?zzhg; (case zzN => k_asm); (case zzm => k_mem); (case zzd => assumption); (case zzk => exact intKind_is _ _ _ _); (case zzv => assumption); (case zzhs => with_unfolding_all rfl); (case zzhg => (intro _; with_unfolding_all rfl)); k_whole))) | ((with_reducible show wpAny _ _ (PySem.setItem (Value.ref _) (Value.int _ _) _) _ _ _); (k_dflt (refine' kda_set (knd := PySem.intKind _ _) ?zzF ?zzN ?zzU ?zzd (intKind_is _ _ _ _) ?zzz ?_; (case zzF => k_asm); (case zzN => k_asm); (case zzU => k_updF); (case zzd => assumption); (case zzz => rw [sizeLine_eq]; omega)); intro h' o' F' N' hd'; (try dsimp only at N'))) | (((with_reducible show wpAny _ _ (call (Value.ref 126) _) _ _ _); k_dflt (refine' Ctr.use ?zzk1 ?zzk2 ?zzk3 ?zzk4 ?zzk5 ?zzkK (came_c _ _ _ _ ?zzq0 _ _ _ _ _ _ _ _ ?zzq1 ?zza0 ?zza1 ?zzb0 ?zzb1 _ _ _ _ _ _ _ _ ?zzq2 ?zzc0 ?zzc1 ?zzd0 ?zzd1) ?zzkd ?zzku ?_; (case zzk1 => k_asm); (case zzk2 => k_asm); (case zzk3 => k_asm); (case zzk4 => k_asm); (case zzk5 => k_asm); (case zzkK => first | exact rfl | assumption); (case zzq0 => assumption); (case zzq1 => k_mem); (case zzq2 => k_mem); (case zza0 => assumption); (case zza1 => assumption); (case zzb0 => assumption); (case zzb1 => assumption); (case zzc0 => assumption); (case zzc1 => assumption); (case zzd0 => assumption); (case zzd1 => assumption); (case zzkd => ktr_room); (case zzku => ktr_units)); intro r9 n9 h9 tk9 F9 N9 e9; obtain ⟨e8, e7⟩ := e9; subst e7; subst e8; (try dsimp only); (try k_fold); (try k_sweep); walk_say "CALL 126")) | ((with_reducible show wpAny _ _ (PySem.setItem (Value.ref _) (Value.int _ _) _) _ _ _); (k_dflt (refine' list_set ?zzF ?zzN ?zzU ?zzh0 ?zzh1 ?zzh2 ?_; (case zzF => k_asm); (case zzN => k_asm); (case zzU => k_upd); (case zzh0 => omega); (case zzh1 => omega); (case zzh2 => omega)); intro h' F' N'; (try dsimp only at N'))) | (((with_reducible show wpAny _ _ (subscriptTail _ _ (Value.ref _) (Value.int _ _)) _ _ _); k_dflt (refine' list_at ?zzN ?zzm ?zzh0 ?zzh1 ?zze ?_ ?zzhs ?zzhg; (case zzN => k_asm); (case zzm => k_mem); (case zze => assumption); (case zzh0 => omega); (case zzh1 => omega); (case zzhs => with_unfolding_all rfl); (case zzhg => (intro _; with_unfolding_all rfl)); k_whole))) | ((with_reducible show wpAny _ _ (PySem.callWith _ (Value.ref _) _ _ _) _ _ _); (k_dflt (refine' callWith_F ?zzk1 ?_; (case zzk1 => exact FnAt.of (by k_asm) (by k_mem)); k_whole))) | ((with_reducible show wpAny _ _ (PySem.getAttr (Value.ref _) _ _) _ _ _); (k_dflt (refine' get_own ?zzk1 ?zzk2 ?zzk3 ?zzk4 ?zzk5 ?zzk6 ?zzk7 ?zzk8 ?zzk9 ?_; (case zzk1 => k_asm); (case zzk2 => k_asm); (case zzk3 => k_inst); (case zzk4 => k_is); (case zzk5 => k_is); (case zzk6 => k_is); (case zzk7 => k_is); (case zzk8 => first | assumption | k_get); (case zzk9 => k_handed); k_whole))) | (((with_reducible show wpAny _ _ (call (Value.builtin "len") [Value.ref _]) _ _ _); k_dflt (refine' len_M ?zzN ?zzm ?zzf ?_; (case zzN => k_asm); (case zzm => k_mem); (case zzf => omega); k_whole))) | ((with_reducible show wpAny _ _ (PySem.execs (_ :: _) _) _ _ _); ((with_reducible refine wpAny_execs_cons ?_); (try dsimp only); (try k_fold))) | walk1 | (dsimp only; (first | (((with_reducible show wpAny _ _ (subscriptTail _ _ (Value.ref _) (Value.int _ _)) _ _ _); k_dflt (refine' kda_item (knd := PySem.intKind _ _) ?zzN ?zzm ?zzd ?zzk ?zzv ?_ ?zzhs ?zzhg; (case zzN => k_asm); (case zzm => k_mem); (case zzd => assumption); (case zzk => exact intKind_is _ _ _ _); (case zzv => assumption); (case zzhs => with_unfolding_all rfl); (case zzhg => (intro _; with_unfolding_all rfl)); k_whole))) | ((with_reducible show wpAny _ _ (PySem.setItem (Value.ref _) (Value.int _ _) _) _ _ _); (k_dflt (refine' kda_set (knd := PySem.intKind _ _) ?zzF ?zzN ?zzU ?zzd (intKind_is _ _ _ _) ?zzz ?_; (case zzF => k_asm); (case zzN => k_asm); (case zzU => k_updF); (case zzd => assumption); (case zzz => rw [sizeLine_eq]; omega)); intro h' o' F' N' hd'; (try dsimp only at N'))) | (((with_reducible show wpAny _ _ (call (Value.ref 126) _) _ _ _); k_dflt (refine' Ctr.use ?zzk1 ?zzk2 ?zzk3 ?zzk4 ?zzk5 ?zzkK (came_c _ _ _ _ ?zzq0 _ _ _ _ _ _ _ _ ?zzq1 ?zza0 ?zza1 ?zzb0 ?zzb1 _ _ _ _ _ _ _ _ ?zzq2 ?zzc0 ?zzc1 ?zzd0 ?zzd1) ?zzkd ?zzku ?_; (case zzk1 => k_asm); (case zzk2 => k_asm); (case zzk3 => k_asm); (case zzk4 => k_asm); (case zzk5 => k_asm); (case zzkK => first | exact rfl | assumption); (case zzq0 => assumption); (case zzq1 => k_mem); (case zzq2 => k_mem); (case zza0 => assumption); (case zza1 => assumption); (case zzb0 => assumption); (case zzb1 => assumption); (case zzc0 => assumption); (case zzc1 => assumption); (case zzd0 => assumption); (case zzd1 => assumption); (case zzkd => ktr_room); (case zzku => ktr_units)); intro r9 n9 h9 tk9 F9 N9 e9; obtain ⟨e8, e7⟩ := e9; subst e7; subst e8; (try dsimp only); (try k_fold); (try k_sweep); walk_say "CALL 126")) | ((with_reducible show wpAny _ _ (PySem.setItem (Value.ref _) (Value.int _ _) _) _ _ _); (k_dflt (refine' list_set ?zzF ?zzN ?zzU ?zzh0 ?zzh1 ?zzh2 ?_; (case zzF => k_asm); (case zzN => k_asm); (case zzU => k_upd); (case zzh0 => omega); (case zzh1 => omega); (case zzh2 => omega)); intro h' F' N'; (try dsimp only at N'))) | (((with_reducible show wpAny _ _ (subscriptTail _ _ (Value.ref _) (Value.int _ _)) _ _ _); k_dflt (refine' list_at ?zzN ?zzm ?zzh0 ?zzh1 ?zze ?_ ?zzhs ?zzhg; (case zzN => k_asm); (case zzm => k_mem); (case zze => assumption); (case zzh0 => omega); (case zzh1 => omega); (case zzhs => with_unfolding_all rfl); (case zzhg => (intro _; with_unfolding_all rfl)); k_whole))) | ((with_reducible show wpAny _ _ (PySem.callWith _ (Value.ref _) _ _ _) _ _ _); (k_dflt (refine' callWith_F ?zzk1 ?_; (case zzk1 => exact FnAt.of (by k_asm) (by k_mem)); k_whole))) | ((with_reducible show wpAny _ _ (PySem.getAttr (Value.ref _) _ _) _ _ _); (k_dflt (refine' get_own ?zzk1 ?zzk2 ?zzk3 ?zzk4 ?zzk5 ?zzk6 ?zzk7 ?zzk8 ?zzk9 ?_; (case zzk1 => k_asm); (case zzk2 => k_asm); (case zzk3 => k_inst); (case zzk4 => k_is); (case zzk5 => k_is); (case zzk6 => k_is); (case zzk7 => k_is); (case zzk8 => first | assumption | k_get); (case zzk9 => k_handed); k_whole))) | (((with_reducible show wpAny _ _ (call (Value.builtin "len") [Value.ref _]) _ _ _); k_dflt (refine' len_M ?zzN ?zzm ?zzf ?_; (case zzN => k_asm); (case zzm => k_mem); (case zzf => omega); k_whole))) | ((with_reducible show wpAny _ _ (PySem.execs (_ :: _) _) _ _ _); ((with_reducible refine wpAny_execs_cons ?_); (try dsimp only); (try k_fold))) | walk1)) | (leave1; walk_say "STEP leave1"; try dsimp only)))
      walk_at "exec Assign cons ListComp"
      (rename News _ _ _ _ => lN6)
      refine' PyProof.Rows.LCp.SrcLP.ledger (ax := evl) (k := nE) (its := vsE.toArray) ?p1 ?p2 lN6 ?p4 ?p5 ?_
      case p1 => rfl
      case p2 => k_asm
      case p4 => k_dflt k_mem
      case p5 => exact fitsM (n := 100) (by omega) (by decide)
      intro g5
      refine' restP_all (fun i ys nx => nx = _ ∧ ys = (evs.take i).map (lastV kvs)) ?fin2 ?step2 vsE.toArray.size 0 [] _ (Nat.zero_add _) ⟨rfl, rfl⟩
      case step2 =>
        rintro i2 ys2 nx2 hi2 ⟨enx, hys2⟩ v hPv
        subst enx
        obtain ⟨e, he, hDe⟩ := evs_get (i := i2) hD (by simpa using hPv)
        obtain ⟨x9, y9, t1, t2, t3, t4, n3, n4, rfl, hx9, hy9⟩ := ev_open hDe
        have hEv := hok e (List.mem_of_getElem? he)
        refine ⟨x9, _, _, _, _, rfl, (by k_mem), rfl, rfl, ?_⟩
        intro I2 oI2 C2 oC2 D2 m₃ h5 tk5 E5 hC2 hx2 hx3 F5 N5 o5 hne5
        have o6 := o5
        simp only [PyProof.Rows.LCg.Off3, and_true] at o6
        cases hev : e.ev with
        | true =>
          simp only [evTag, hev, if_true] at hy9
          repeat' (first | (k_unfold; (try dsimp only)) | (k_end; wrow_close) | (((with_reducible show wpAny _ _ (subscriptTail _ _ (Value.ref _) (Value.int _ _)) _ _ _); k_dflt (refine' kda_item (knd := PySem.intKind _ _) ?zzN ?zzm ?zzd ?zzk ?zzv ?_ ?zzhs ?zzhg; (case zzN => k_asm); (case zzm => k_mem); (case zzd => assumption); (case zzk => exact intKind_is _ _ _ _); (case zzv => assumption); (case zzhs => with_unfolding_all rfl); (case zzhg => (intro _; with_unfolding_all rfl)); k_whole))) | ((with_reducible show wpAny _ _ (PySem.setItem (Value.ref _) (Value.int _ _) _) _ _ _); (k_dflt (refine' kda_set (knd := PySem.intKind _ _) ?zzF ?zzN ?zzU ?zzd (intKind_is _ _ _ _) ?zzz ?_; (case zzF => k_asm); (case zzN => k_asm); (case zzU => k_updF); (case zzd => assumption); (case zzz => rw [sizeLine_eq]; omega)); intro h' o' F' N' hd'; (try dsimp only at N'))) | (((with_reducible show wpAny _ _ (call (Value.ref 126) _) _ _ _); k_dflt (refine' Ctr.use ?zzk1 ?zzk2 ?zzk3 ?zzk4 ?zzk5 ?zzkK (came_c _ _ _ _ ?zzq0 _ _ _ _ _ _ _ _ ?zzq1 ?zza0 ?zza1 ?zzb0 ?zzb1 _ _ _ _ _ _ _ _ ?zzq2 ?zzc0 ?zzc1 ?zzd0 ?zzd1) ?zzkd ?zzku ?_; (case zzk1 => k_asm); (case zzk2 => k_asm); (case zzk3 => k_asm); (case zzk4 => k_asm); (case zzk5 => k_asm); (case zzkK => first | exact rfl | assumption); (case zzq0 => assumption); (case zzq1 => k_mem); (case zzq2 => k_mem); (case zza0 => assumption); (case zza1 => assumption); (case zzb0 => assumption); (case zzb1 => assumption); (case zzc0 => assumption); (case zzc1 => assumption); (case zzd0 => assumption); (case zzd1 => assumption); (case zzkd => ktr_room); (case zzku => ktr_units)); intro r9 n9 h9 tk9 F9 N9 e9; obtain ⟨e8, e7⟩ := e9; subst e7; subst e8; (try dsimp only); (try k_fold); (try k_sweep); walk_say "CALL 126")) | ((with_reducible show wpAny _ _ (PySem.setItem (Value.ref _) (Value.int _ _) _) _ _ _); (k_dflt (refine' list_set ?zzF ?zzN ?zzU ?zzh0 ?zzh1 ?zzh2 ?_; (case zzF => k_asm); (case zzN => k_asm); (case zzU => k_upd); (case zzh0 => omega); (case zzh1 => omega); (case zzh2 => omega)); intro h' F' N'; (try dsimp only at N'))) | (((with_reducible show wpAny _ _ (subscriptTail _ _ (Value.ref _) (Value.int _ _)) _ _ _); k_dflt (refine' list_at ?zzN ?zzm ?zzh0 ?zzh1 ?zze ?_ ?zzhs ?zzhg; (case zzN => k_asm); (case zzm => k_mem); (case zze => assumption); (case zzh0 => omega); (case zzh1 => omega); (case zzhs => with_unfolding_all rfl); (case zzhg => (intro _; with_unfolding_all rfl)); k_whole))) | ((with_reducible show wpAny _ _ (PySem.callWith _ (Value.ref _) _ _ _) _ _ _); (k_dflt (refine' callWith_F ?zzk1 ?_; (case zzk1 => exact FnAt.of (by k_asm) (by k_mem)); k_whole))) | ((with_reducible show wpAny _ _ (PySem.getAttr (Value.ref _) _ _) _ _ _); (k_dflt (refine' get_own ?zzk1 ?zzk2 ?zzk3 ?zzk4 ?zzk5 ?zzk6 ?zzk7 ?zzk8 ?zzk9 ?_; (case zzk1 => k_asm); (case zzk2 => k_asm); (case zzk3 => k_inst); (case zzk4 => k_is); (case zzk5 => k_is); (case zzk6 => k_is); (case zzk7 => k_is); (case zzk8 => first | assumption | k_get); (case zzk9 => k_handed); k_whole))) | (((with_reducible show wpAny _ _ (call (Value.builtin "len") [Value.ref _]) _ _ _); k_dflt (refine' len_M ?zzN ?zzm ?zzf ?_; (case zzN => k_asm); (case zzm => k_mem); (case zzf => omega); k_whole))) | ((with_reducible show wpAny _ _ (PySem.execs (_ :: _) _) _ _ _); ((with_reducible refine wpAny_execs_cons ?_); (try dsimp only); (try k_fold))) | walk1 | (dsimp only; (first | (((with_reducible show wpAny _ _ (subscriptTail _ _ (Value.ref _) (Value.int _ _)) _ _ _); k_dflt (refine' kda_item (knd := PySem.intKind _ _) ?zzN ?zzm ?zzd ?zzk ?zzv ?_ ?zzhs ?zzhg; (case zzN => k_asm); (case zzm => k_mem); (case zzd => assumption); (case zzk => exact intKind_is _ _ _ _); (case zzv => assumption); (case zzhs => with_unfolding_all rfl); (case zzhg => (intro _; with_unfolding_all rfl)); k_whole))) | ((with_reducible show wpAny _ _ (PySem.setItem (Value.ref _) (Value.int _ _) _) _ _ _); (k_dflt (refine' kda_set (knd := PySem.intKind _ _) ?zzF ?zzN ?zzU ?zzd (intKind_is _ _ _ _) ?zzz ?_; (case zzF => k_asm); (case zzN => k_asm); (case zzU => k_updF); (case zzd => assumption); (case zzz => rw [sizeLine_eq]; omega)); intro h' o' F' N' hd'; (try dsimp only at N'))) | (((with_reducible show wpAny _ _ (call (Value.ref 126) _) _ _ _); k_dflt (refine' Ctr.use ?zzk1 ?zzk2 ?zzk3 ?zzk4 ?zzk5 ?zzkK (came_c _ _ _ _ ?zzq0 _ _ _ _ _ _ _ _ ?zzq1 ?zza0 ?zza1 ?zzb0 ?zzb1 _ _ _ _ _ _ _ _ ?zzq2 ?zzc0 ?zzc1 ?zzd0 ?zzd1) ?zzkd ?zzku ?_; (case zzk1 => k_asm); (case zzk2 => k_asm); (case zzk3 => k_asm); (case zzk4 => k_asm); (case zzk5 => k_asm); (case zzkK => first | exact rfl | assumption); (case zzq0 => assumption); (case zzq1 => k_mem); (case zzq2 => k_mem); (case zza0 => assumption); (case zza1 => assumption); (case zzb0 => assumption); (case zzb1 => assumption); (case zzc0 => assumption); (case zzc1 => assumption); (case zzd0 => assumption); (case zzd1 => assumption); (case zzkd => ktr_room); (case zzku => ktr_units)); intro r9 n9 h9 tk9 F9 N9 e9; obtain ⟨e8, e7⟩ := e9; subst e7; subst e8; (try dsimp only); (try k_fold); (try k_sweep); walk_say "CALL 126")) | ((with_reducible show wpAny _ _ (PySem.setItem (Value.ref _) (Value.int _ _) _) _ _ _); (k_dflt (refine' list_set ?zzF ?zzN ?zzU ?zzh0 ?zzh1 ?zzh2 ?_; (case zzF => k_asm); (case zzN => k_asm); (case zzU => k_upd); (case zzh0 => omega); (case zzh1 => omega); (case zzh2 => omega)); intro h' F' N'; (try dsimp only at N'))) | (((with_reducible show wpAny _ _ (subscriptTail _ _ (Value.ref _) (Value.int _ _)) _ _ _); k_dflt (refine' list_at ?zzN ?zzm ?zzh0 ?zzh1 ?zze ?_ ?zzhs ?zzhg; (case zzN => k_asm); (case zzm => k_mem); (case zze => assumption); (case zzh0 => omega); (case zzh1 => omega); (case zzhs => with_unfolding_all rfl); (case zzhg => (intro _; with_unfolding_all rfl)); k_whole))) | ((with_reducible show wpAny _ _ (PySem.callWith _ (Value.ref _) _ _ _) _ _ _); (k_dflt (refine' callWith_F ?zzk1 ?_; (case zzk1 => exact FnAt.of (by k_asm) (by k_mem)); k_whole))) | ((with_reducible show wpAny _ _ (PySem.getAttr (Value.ref _) _ _) _ _ _); (k_dflt (refine' get_own ?zzk1 ?zzk2 ?zzk3 ?zzk4 ?zzk5 ?zzk6 ?zzk7 ?zzk8 ?zzk9 ?_; (case zzk1 => k_asm); (case zzk2 => k_asm); (case zzk3 => k_inst); (case zzk4 => k_is); (case zzk5 => k_is); (case zzk6 => k_is); (case zzk7 => k_is); (case zzk8 => first | assumption | k_get); (case zzk9 => k_handed); k_whole))) | (((with_reducible show wpAny _ _ (call (Value.builtin "len") [Value.ref _]) _ _ _); k_dflt (refine' len_M ?zzN ?zzm ?zzf ?_; (case zzN => k_asm); (case zzm => k_mem); (case zzf => omega); k_whole))) | ((with_reducible show wpAny _ _ (PySem.execs (_ :: _) _) _ _ _); ((with_reducible refine wpAny_execs_cons ?_); (try dsimp only); (try k_fold))) | walk1)) | (leave1; walk_say "STEP leave1"; try dsimp only) | fail "no step")
          (rename News _ _ _ _ => lN7)
          refine' PyProof.Rows.LCg.CompEnd.intro (by k_asm) lN7 _ (fun p hp => hp) o5 (.inr ⟨listOf vsE.toArray nE, by simp only [List.mem_cons, hevl, or_true], rfl, nE, rfl⟩) ⟨rfl, ?_⟩
          rw [List.take_add_one, he, List.map_append, hys2]
          simp [lastV, hev]
        | false =>
          simp only [evTag, hev, Bool.false_eq_true, if_false] at hy9
          obtain ⟨vv, hval, hvec⟩ := hheld e.key hEv.k0 (hEv.sig hev)
          repeat' (first | (k_unfold; (try dsimp only)) | (k_end; wrow_close) | (((with_reducible show wpAny _ _ (subscriptTail _ _ (Value.ref _) (Value.int _ _)) _ _ _); k_dflt (refine' kda_item (knd := PySem.intKind _ _) ?zzN ?zzm ?zzd ?zzk ?zzv ?_ ?zzhs ?zzhg; (case zzN => k_asm); (case zzm => k_mem); (case zzd => assumption); (case zzk => exact intKind_is _ _ _ _); (case zzv => assumption); (case zzhs => with_unfolding_all rfl); (case zzhg => (intro _; with_unfolding_all rfl)); k_whole))) | ((with_reducible show wpAny _ _ (PySem.setItem (Value.ref _) (Value.int _ _) _) _ _ _); (k_dflt (refine' kda_set (knd := PySem.intKind _ _) ?zzF ?zzN ?zzU ?zzd (intKind_is _ _ _ _) ?zzz ?_; (case zzF => k_asm); (case zzN => k_asm); (case zzU => k_updF); (case zzd => assumption); (case zzz => rw [sizeLine_eq]; omega)); intro h' o' F' N' hd'; (try dsimp only at N'))) | (((with_reducible show wpAny _ _ (call (Value.ref 126) _) _ _ _); k_dflt (refine' Ctr.use ?zzk1 ?zzk2 ?zzk3 ?zzk4 ?zzk5 ?zzkK (came_c _ _ _ _ ?zzq0 _ _ _ _ _ _ _ _ ?zzq1 ?zza0 ?zza1 ?zzb0 ?zzb1 _ _ _ _ _ _ _ _ ?zzq2 ?zzc0 ?zzc1 ?zzd0 ?zzd1) ?zzkd ?zzku ?_; (case zzk1 => k_asm); (case zzk2 => k_asm); (case zzk3 => k_asm); (case zzk4 => k_asm); (case zzk5 => k_asm); (case zzkK => first | exact rfl | assumption); (case zzq0 => assumption); (case zzq1 => k_mem); (case zzq2 => k_mem); (case zza0 => assumption); (case zza1 => assumption); (case zzb0 => assumption); (case zzb1 => assumption); (case zzc0 => assumption); (case zzc1 => assumption); (case zzd0 => assumption); (case zzd1 => assumption); (case zzkd => ktr_room); (case zzku => ktr_units)); intro r9 n9 h9 tk9 F9 N9 e9; obtain ⟨e8, e7⟩ := e9; subst e7; subst e8; (try dsimp only); (try k_fold); (try k_sweep); walk_say "CALL 126")) | ((with_reducible show wpAny _ _ (PySem.setItem (Value.ref _) (Value.int _ _) _) _ _ _); (k_dflt (refine' list_set ?zzF ?zzN ?zzU ?zzh0 ?zzh1 ?zzh2 ?_; (case zzF => k_asm); (case zzN => k_asm); (case zzU => k_upd); (case zzh0 => omega); (case zzh1 => omega); (case zzh2 => omega)); intro h' F' N'; (try dsimp only at N'))) | (((with_reducible show wpAny _ _ (subscriptTail _ _ (Value.ref _) (Value.int _ _)) _ _ _); k_dflt (refine' list_at ?zzN ?zzm ?zzh0 ?zzh1 ?zze ?_ ?zzhs ?zzhg; (case zzN => k_asm); (case zzm => k_mem); (case zze => assumption); (case zzh0 => omega); (case zzh1 => omega); (case zzhs => with_unfolding_all rfl); (case zzhg => (intro _; with_unfolding_all rfl)); k_whole))) | ((with_reducible show wpAny _ _ (PySem.callWith _ (Value.ref _) _ _ _) _ _ _); (k_dflt (refine' callWith_F ?zzk1 ?_; (case zzk1 => exact FnAt.of (by k_asm) (by k_mem)); k_whole))) | ((with_reducible show wpAny _ _ (PySem.getAttr (Value.ref _) _ _) _ _ _); (k_dflt (refine' get_own ?zzk1 ?zzk2 ?zzk3 ?zzk4 ?zzk5 ?zzk6 ?zzk7 ?zzk8 ?zzk9 ?_; (case zzk1 => k_asm); (case zzk2 => k_asm); (case zzk3 => k_inst); (case zzk4 => k_is); (case zzk5 => k_is); (case zzk6 => k_is); (case zzk7 => k_is); (case zzk8 => first | assumption | k_get); (case zzk9 => k_handed); k_whole))) | (((with_reducible show wpAny _ _ (call (Value.builtin "len") [Value.ref _]) _ _ _); k_dflt (refine' len_M ?zzN ?zzm ?zzf ?_; (case zzN => k_asm); (case zzm => k_mem); (case zzf => omega); k_whole))) | ((with_reducible show wpAny _ _ (PySem.execs (_ :: _) _) _ _ _); ((with_reducible refine wpAny_execs_cons ?_); (try dsimp only); (try k_fold))) | walk1 | (dsimp only; (first | (((with_reducible show wpAny _ _ (subscriptTail _ _ (Value.ref _) (Value.int _ _)) _ _ _); k_dflt (refine' kda_item (knd := PySem.intKind _ _) ?zzN ?zzm ?zzd ?zzk ?zzv ?_ ?zzhs ?zzhg; (case zzN => k_asm); (case zzm => k_mem); (case zzd => assumption); (case zzk => exact intKind_is _ _ _ _); (case zzv => assumption); (case zzhs => with_unfolding_all rfl); (case zzhg => (intro _; with_unfolding_all rfl)); k_whole))) | ((with_reducible show wpAny _ _ (PySem.setItem (Value.ref _) (Value.int _ _) _) _ _ _); (k_dflt (refine' kda_set (knd := PySem.intKind _ _) ?zzF ?zzN ?zzU ?zzd (intKind_is _ _ _ _) ?zzz ?_; (case zzF => k_asm); (case zzN => k_asm); (case zzU => k_updF); (case zzd => assumption); (case zzz => rw [sizeLine_eq]; omega)); intro h' o' F' N' hd'; (try dsimp only at N'))) | (((with_reducible show wpAny _ _ (call (Value.ref 126) _) _ _ _); k_dflt (refine' Ctr.use ?zzk1 ?zzk2 ?zzk3 ?zzk4 ?zzk5 ?zzkK (came_c _ _ _ _ ?zzq0 _ _ _ _ _ _ _ _ ?zzq1 ?zza0 ?zza1 ?zzb0 ?zzb1 _ _ _ _ _ _ _ _ ?zzq2 ?zzc0 ?zzc1 ?zzd0 ?zzd1) ?zzkd ?zzku ?_; (case zzk1 => k_asm); (case zzk2 => k_asm); (case zzk3 => k_asm); (case zzk4 => k_asm); (case zzk5 => k_asm); (case zzkK => first | exact rfl | assumption); (case zzq0 => assumption); (case zzq1 => k_mem); (case zzq2 => k_mem); (case zza0 => assumption); (case zza1 => assumption); (case zzb0 => assumption); (case zzb1 => assumption); (case zzc0 => assumption); (case zzc1 => assumption); (case zzd0 => assumption); (case zzd1 => assumption); (case zzkd => ktr_room); (case zzku => ktr_units)); intro r9 n9 h9 tk9 F9 N9 e9; obtain ⟨e8, e7⟩ := e9; subst e7; subst e8; (try dsimp only); (try k_fold); (try k_sweep); walk_say "CALL 126")) | ((with_reducible show wpAny _ _ (PySem.setItem (Value.ref _) (Value.int _ _) _) _ _ _); (k_dflt (refine' list_set ?zzF ?zzN ?zzU ?zzh0 ?zzh1 ?zzh2 ?_; (case zzF => k_asm); (case zzN => k_asm); (case zzU => k_upd); (case zzh0 => omega); (case zzh1 => omega); (case zzh2 => omega)); intro h' F' N'; (try dsimp only at N'))) | (((with_reducible show wpAny _ _ (subscriptTail _ _ (Value.ref _) (Value.int _ _)) _ _ _); k_dflt (refine' list_at ?zzN ?zzm ?zzh0 ?zzh1 ?zze ?_ ?zzhs ?zzhg; (case zzN => k_asm); (case zzm => k_mem); (case zze => assumption); (case zzh0 => omega); (case zzh1 => omega); (case zzhs => with_unfolding_all rfl); (case zzhg => (intro _; with_unfolding_all rfl)); k_whole))) | ((with_reducible show wpAny _ _ (PySem.callWith _ (Value.ref _) _ _ _) _ _ _); (k_dflt (refine' callWith_F ?zzk1 ?_; (case zzk1 => exact FnAt.of (by k_asm) (by k_mem)); k_whole))) | ((with_reducible show wpAny _ _ (PySem.getAttr (Value.ref _) _ _) _ _ _); (k_dflt (refine' get_own ?zzk1 ?zzk2 ?zzk3 ?zzk4 ?zzk5 ?zzk6 ?zzk7 ?zzk8 ?zzk9 ?_; (case zzk1 => k_asm); (case zzk2 => k_asm); (case zzk3 => k_inst); (case zzk4 => k_is); (case zzk5 => k_is); (case zzk6 => k_is); (case zzk7 => k_is); (case zzk8 => first | assumption | k_get); (case zzk9 => k_handed); k_whole))) | (((with_reducible show wpAny _ _ (call (Value.builtin "len") [Value.ref _]) _ _ _); k_dflt (refine' len_M ?zzN ?zzm ?zzf ?_; (case zzN => k_asm); (case zzm => k_mem); (case zzf => omega); k_whole))) | ((with_reducible show wpAny _ _ (PySem.execs (_ :: _) _) _ _ _); ((with_reducible refine wpAny_execs_cons ?_); (try dsimp only); (try k_fold))) | walk1)) | (leave1; walk_say "STEP leave1"; try dsimp only) | fail "no step")
          (rename News _ _ _ _ => lN7)
          refine' PyProof.Rows.LCg.CompEnd.intro (by k_asm) lN7 _ (fun p hp => hp) o5 (.inr ⟨listOf vsE.toArray nE, by simp only [List.mem_cons, hevl, or_true], rfl, nE, rfl⟩) ⟨rfl, ?_⟩
          rw [List.take_add_one, he, List.map_append, hys2]
          simp [lastV, hev, heldV, hval]
      case fin2 =>
        rintro ys2 nx2 ⟨enx, hys2⟩
        subst enx
        rw [show List.take vsE.toArray.size evs = evs by rw [List.size_toArray, hlE, List.take_length]] at hys2
        subst hys2
        unfold PyProof.Rows.LCg.FinA
        intro lb h6 tk6 F6 N6 o6
        simp only [PyProof.Rows.LCg.Off1, and_true] at o6
        repeat' ((fail_if_success (with_reducible show wpAny _ _ (PySem.pyIter (Value.ref _)) _ _ _)); (fail_if_success (with_reducible show wpAny _ _ (PySem.compareOp _ (Value.ref _) (Value.ref _)) _ _ _)); (fail_if_success (with_reducible show wpAny _ _ (PySem.eval (PySem.Expr.ListComp _ _ _ _) _) _ _ _)); (first | (k_unfold; (try dsimp only)) | (k_end; wrow_close) | (((with_reducible show wpAny _ _ (subscriptTail _ _ (Value.ref _) (Value.int _ _)) _ _ _); k_dflt (refine' kda_item (knd := PySem.intKind _ _) ?zzN ?zzm ?zzd ?zzk ?zzv ?_ ?zzhs ?zzhg; (case zzN => k_asm); (case zzm => k_mem); (case zzd => assumption); (case zzk => exact intKind_is _ _ _ _); (case zzv => assumption); (case zzhs => with_unfolding_all rfl); (case zzhg => (intro _; with_unfolding_all rfl)); k_whole))) | ((with_reducible show wpAny _ _ (PySem.setItem (Value.ref _) (Value.int _ _) _) _ _ _); (k_dflt (refine' kda_set (knd := PySem.intKind _ _) ?zzF ?zzN ?zzU ?zzd (intKind_is _ _ _ _) ?zzz ?_; (case zzF => k_asm); (case zzN => k_asm); (case zzU => k_updF); (case zzd => assumption); (case zzz => rw [sizeLine_eq]; omega)); intro h' o' F' N' hd'; (try dsimp only at N'))) | (((with_reducible show wpAny _ _ (call (Value.ref 126) _) _ _ _); k_dflt (refine' Ctr.use ?zzk1 ?zzk2 ?zzk3 ?zzk4 ?zzk5 ?zzkK (came_c _ _ _ _ ?zzq0 _ _ _ _ _ _ _ _ ?zzq1 ?zza0 ?zza1 ?zzb0 ?zzb1 _ _ _ _ _ _ _ _ ?zzq2 ?zzc0 ?zzc1 ?zzd0 ?zzd1) ?zzkd ?zzku ?_; (case zzk1 => k_asm); (case zzk2 => k_asm); (case zzk3 => k_asm); (case zzk4 => k_asm); (case zzk5 => k_asm); (case zzkK => first | exact rfl | assumption); (case zzq0 => assumption); (case zzq1 => k_mem); (case zzq2 => k_mem); (case zza0 => assumption); (case zza1 => assumption); (case zzb0 => assumption); (case zzb1 => assumption); (case zzc0 => assumption); (case zzc1 => assumption); (case zzd0 => assumption); (case zzd1 => assumption); (case zzkd => ktr_room); (case zzku => ktr_units)); intro r9 n9 h9 tk9 F9 N9 e9; obtain ⟨e8, e7⟩ := e9; subst e7; subst e8; (try dsimp only); (try k_fold); (try k_sweep); walk_say "CALL 126")) | ((with_reducible show wpAny _ _ (PySem.setItem (Value.ref _) (Value.int _ _) _) _ _ _); (k_dflt (refine' list_set ?zzF ?zzN ?zzU ?zzh0 ?zzh1 ?zzh2 ?_; (case zzF => k_asm); (case zzN => k_asm); (case zzU => k_upd); (case zzh0 => omega); (case zzh1 => omega); (case zzh2 => omega)); intro h' F' N'; (try dsimp only at N'))) | (((with_reducible show wpAny _ _ (subscriptTail _ _ (Value.ref _) (Value.int _ _)) _ _ _); k_dflt (refine' list_at ?zzN ?zzm ?zzh0 ?zzh1 ?zze ?_ ?zzhs ?zzhg; (case zzN => k_asm); (case zzm => k_mem); (case zze => assumption); (case zzh0 => omega); (case zzh1 => omega); (case zzhs => with_unfolding_all rfl); (case zzhg => (intro _; with_unfolding_all rfl)); k_whole))) | ((with_reducible show wpAny _ _ (PySem.callWith _ (Value.ref _) _ _ _) _ _ _); (k_dflt (refine' callWith_F ?zzk1 ?_; (case zzk1 => exact FnAt.of (by k_asm) (by k_mem)); k_whole))) | ((with_reducible show wpAny _ _ (PySem.getAttr (Value.ref _) _ _) _ _ _); (k_dflt (refine' get_own ?zzk1 ?zzk2 ?zzk3 ?zzk4 ?zzk5 ?zzk6 ?zzk7 ?zzk8 ?zzk9 ?_; (case zzk1 => k_asm); (case zzk2 => k_asm); (case zzk3 => k_inst); (case zzk4 => k_is); (case zzk5 => k_is); (case zzk6 => k_is); (case zzk7 => k_is); (case zzk8 => first | assumption | k_get); (case zzk9 => k_handed); k_whole))) | (((with_reducible show wpAny _ _ (call (Value.builtin "len") [Value.ref _]) _ _ _); k_dflt (refine' len_M ?zzN ?zzm ?zzf ?_; (case zzN => k_asm); (case zzm => k_mem); (case zzf => omega); k_whole))) | ((with_reducible show wpAny _ _ (PySem.execs (_ :: _) _) _ _ _); ((with_reducible refine wpAny_execs_cons ?_); (try dsimp only); (try k_fold))) | walk1 | (dsimp only; (first | (((with_reducible show wpAny _ _ (subscriptTail _ _ (Value.ref _) (Value.int _ _)) _ _ _); k_dflt (refine' kda_item (knd := PySem.intKind _ _) ?zzN ?zzm ?zzd ?zzk ?zzv ?_ ?zzhs ?zzhg; (case zzN => k_asm); (case zzm => k_mem); (case zzd => assumption); (case zzk => exact intKind_is _ _ _ _); (case zzv => assumption); (case zzhs => with_unfolding_all rfl); (case zzhg => (intro _; with_unfolding_all rfl)); k_whole))) | ((with_reducible show wpAny _ _ (PySem.setItem (Value.ref _) (Value.int _ _) _) _ _ _); (k_dflt (refine' kda_set (knd := PySem.intKind _ _) ?zzF ?zzN ?zzU ?zzd (intKind_is _ _ _ _) ?zzz ?_; (case zzF => k_asm); (case zzN => k_asm); (case zzU => k_updF); (case zzd => assumption); (case zzz => rw [sizeLine_eq]; omega)); intro h' o' F' N' hd'; (try dsimp only at N'))) | (((with_reducible show wpAny _ _ (call (Value.ref 126) _) _ _ _); k_dflt (refine' Ctr.use ?zzk1 ?zzk2 ?zzk3 ?zzk4 ?zzk5 ?zzkK (came_c _ _ _ _ ?zzq0 _ _ _ _ _ _ _ _ ?zzq1 ?zza0 ?zza1 ?zzb0 ?zzb1 _ _ _ _ _ _ _ _ ?zzq2 ?zzc0 ?zzc1 ?zzd0 ?zzd1) ?zzkd ?zzku ?_; (case zzk1 => k_asm); (case zzk2 => k_asm); (case zzk3 => k_asm); (case zzk4 => k_asm); (case zzk5 => k_asm); (case zzkK => first | exact rfl | assumption); (case zzq0 => assumption); (case zzq1 => k_mem); (case zzq2 => k_mem); (case zza0 => assumption); (case zza1 => assumption); (case zzb0 => assumption); (case zzb1 => assumption); (case zzc0 => assumption); (case zzc1 => assumption); (case zzd0 => assumption); (case zzd1 => assumption); (case zzkd => ktr_room); (case zzku => ktr_units)); intro r9 n9 h9 tk9 F9 N9 e9; obtain ⟨e8, e7⟩ := e9; subst e7; subst e8; (try dsimp only); (try k_fold); (try k_sweep); walk_say "CALL 126")) | ((with_reducible show wpAny _ _ (PySem.setItem (Value.ref _) (Value.int _ _) _) _ _ _); (k_dflt (refine' list_set ?zzF ?zzN ?zzU ?zzh0 ?zzh1 ?zzh2 ?_; (case zzF => k_asm); (case zzN => k_asm); (case zzU => k_upd); (case zzh0 => omega); (case zzh1 => omega); (case zzh2 => omega)); intro h' F' N'; (try dsimp only at N'))) | (((with_reducible show wpAny _ _ (subscriptTail _ _ (Value.ref _) (Value.int _ _)) _ _ _); k_dflt (refine' list_at ?zzN ?zzm ?zzh0 ?zzh1 ?zze ?_ ?zzhs ?zzhg; (case zzN => k_asm); (case zzm => k_mem); (case zze => assumption); (case zzh0 => omega); (case zzh1 => omega); (case zzhs => with_unfolding_all rfl); (case zzhg => (intro _; with_unfolding_all rfl)); k_whole))) | ((with_reducible show wpAny _ _ (PySem.callWith _ (Value.ref _) _ _ _) _ _ _); (k_dflt (refine' callWith_F ?zzk1 ?_; (case zzk1 => exact FnAt.of (by k_asm) (by k_mem)); k_whole))) | ((with_reducible show wpAny _ _ (PySem.getAttr (Value.ref _) _ _) _ _ _); (k_dflt (refine' get_own ?zzk1 ?zzk2 ?zzk3 ?zzk4 ?zzk5 ?zzk6 ?zzk7 ?zzk8 ?zzk9 ?_; (case zzk1 => k_asm); (case zzk2 => k_asm); (case zzk3 => k_inst); (case zzk4 => k_is); (case zzk5 => k_is); (case zzk6 => k_is); (case zzk7 => k_is); (case zzk8 => first | assumption | k_get); (case zzk9 => k_handed); k_whole))) | (((with_reducible show wpAny _ _ (call (Value.builtin "len") [Value.ref _]) _ _ _); k_dflt (refine' len_M ?zzN ?zzm ?zzf ?_; (case zzN => k_asm); (case zzm => k_mem); (case zzf => omega); k_whole))) | ((with_reducible show wpAny _ _ (PySem.execs (_ :: _) _) _ _ _); ((with_reducible refine wpAny_execs_cons ?_); (try dsimp only); (try k_fold))) | walk1)) | (leave1; walk_say "STEP leave1"; try dsimp only)))
        (rename News _ _ _ _ => lN7)
        refine' slept_same (nl := nl) (D := Dk) lN7 ?m1 ?m2 hik2 ?m3 ?m4 i5 ?hu ?_
        case m1 => k_dflt k_mem
        case m2 => k_dflt k_mem
        case m3 => k_dflt k_mem
        case m4 => k_dflt k_mem
        case hu => ktr_units
        repeat' ((fail_if_success (with_reducible show wpAny _ _ (PySem.pyIter (Value.ref _)) _ _ _)); (fail_if_success (with_reducible show wpAny _ _ (PySem.compareOp _ (Value.ref _) (Value.ref _)) _ _ _)); (fail_if_success (with_reducible show wpAny _ _ (PySem.eval (PySem.Expr.ListComp _ _ _ _) _) _ _ _)); (first | (k_unfold; (try dsimp only)) | (k_end; wrow_close) | (((with_reducible show wpAny _ _ (subscriptTail _ _ (Value.ref _) (Value.int _ _)) _ _ _); k_dflt (refine' kda_item (knd := PySem.intKind _ _) ?zzN ?zzm ?zzd ?zzk ?zzv ?_ ?zzhs ?zzhg; (case zzN => k_asm); (case zzm => k_mem); (case zzd => assumption); (case zzk => exact intKind_is _ _ _ _); (case zzv => assumption); (case zzhs => with_unfolding_all rfl); (case zzhg => (intro _; with_unfolding_all rfl)); k_whole))) | ((with_reducible show wpAny _ _ (PySem.setItem (Value.ref _) (Value.int _ _) _) _ _ _); (k_dflt (refine' kda_set (knd := PySem.intKind _ _) ?zzF ?zzN ?zzU ?zzd (intKind_is _ _ _ _) ?zzz ?_; (case zzF => k_asm); (case zzN => k_asm); (case zzU => k_updF); (case zzd => assumption); (case zzz => rw [sizeLine_eq]; omega)); intro h' o' F' N' hd'; (try dsimp only at N'))) | (((with_reducible show wpAny _ _ (call (Value.ref 126) _) _ _ _); k_dflt (refine' Ctr.use ?zzk1 ?zzk2 ?zzk3 ?zzk4 ?zzk5 ?zzkK (came_c _ _ _ _ ?zzq0 _ _ _ _ _ _ _ _ ?zzq1 ?zza0 ?zza1 ?zzb0 ?zzb1 _ _ _ _ _ _ _ _ ?zzq2 ?zzc0 ?zzc1 ?zzd0 ?zzd1) ?zzkd ?zzku ?_; (case zzk1 => k_asm); (case zzk2 => k_asm); (case zzk3 => k_asm); (case zzk4 => k_asm); (case zzk5 => k_asm); (case zzkK => first | exact rfl | assumption); (case zzq0 => assumption); (case zzq1 => k_mem); (case zzq2 => k_mem); (case zza0 => assumption); (case zza1 => assumption); (case zzb0 => assumption); (case zzb1 => assumption); (case zzc0 => assumption); (case zzc1 => assumption); (case zzd0 => assumption); (case zzd1 => assumption); (case zzkd => ktr_room); (case zzku => ktr_units)); intro r9 n9 h9 tk9 F9 N9 e9; obtain ⟨e8, e7⟩ := e9; subst e7; subst e8; (try dsimp only); (try k_fold); (try k_sweep); walk_say "CALL 126")) | ((with_reducible show wpAny _ _ (PySem.setItem (Value.ref _) (Value.int _ _) _) _ _ _); (k_dflt (refine' list_set ?zzF ?zzN ?zzU ?zzh0 ?zzh1 ?zzh2 ?_; (case zzF => k_asm); (case zzN => k_asm); (case zzU => k_upd); (case zzh0 => omega); (case zzh1 => omega); (case zzh2 => omega)); intro h' F' N'; (try dsimp only at N'))) | (((with_reducible show wpAny _ _ (subscriptTail _ _ (Value.ref _) (Value.int _ _)) _ _ _); k_dflt (refine' list_at ?zzN ?zzm ?zzh0 ?zzh1 ?zze ?_ ?zzhs ?zzhg; (case zzN => k_asm); (case zzm => k_mem); (case zze => assumption); (case zzh0 => omega); (case zzh1 => omega); (case zzhs => with_unfolding_all rfl); (case zzhg => (intro _; with_unfolding_all rfl)); k_whole))) | ((with_reducible show wpAny _ _ (PySem.callWith _ (Value.ref _) _ _ _) _ _ _); (k_dflt (refine' callWith_F ?zzk1 ?_; (case zzk1 => exact FnAt.of (by k_asm) (by k_mem)); k_whole))) | ((with_reducible show wpAny _ _ (PySem.getAttr (Value.ref _) _ _) _ _ _); (k_dflt (refine' get_own ?zzk1 ?zzk2 ?zzk3 ?zzk4 ?zzk5 ?zzk6 ?zzk7 ?zzk8 ?zzk9 ?_; (case zzk1 => k_asm); (case zzk2 => k_asm); (case zzk3 => k_inst); (case zzk4 => k_is); (case zzk5 => k_is); (case zzk6 => k_is); (case zzk7 => k_is); (case zzk8 => first | assumption | k_get); (case zzk9 => k_handed); k_whole))) | (((with_reducible show wpAny _ _ (call (Value.builtin "len") [Value.ref _]) _ _ _); k_dflt (refine' len_M ?zzN ?zzm ?zzf ?_; (case zzN => k_asm); (case zzm => k_mem); (case zzf => omega); k_whole))) | ((with_reducible show wpAny _ _ (PySem.execs (_ :: _) _) _ _ _); ((with_reducible refine wpAny_execs_cons ?_); (try dsimp only); (try k_fold))) | walk1 | (dsimp only; (first | (((with_reducible show wpAny _ _ (subscriptTail _ _ (Value.ref _) (Value.int _ _)) _ _ _); k_dflt (refine' kda_item (knd := PySem.intKind _ _) ?zzN ?zzm ?zzd ?zzk ?zzv ?_ ?zzhs ?zzhg; (case zzN => k_asm); (case zzm => k_mem); (case zzd => assumption); (case zzk => exact intKind_is _ _ _ _); (case zzv => assumption); (case zzhs => with_unfolding_all rfl); (case zzhg => (intro _; with_unfolding_all rfl)); k_whole))) | ((with_reducible show wpAny _ _ (PySem.setItem (Value.ref _) (Value.int _ _) _) _ _ _); (k_dflt (refine' kda_set (knd := PySem.intKind _ _) ?zzF ?zzN ?zzU ?zzd (intKind_is _ _ _ _) ?zzz ?_; (case zzF => k_asm); (case zzN => k_asm); (case zzU => k_updF); (case zzd => assumption); (case zzz => rw [sizeLine_eq]; omega)); intro h' o' F' N' hd'; (try dsimp only at N'))) | (((with_reducible show wpAny _ _ (call (Value.ref 126) _) _ _ _); k_dflt (refine' Ctr.use ?zzk1 ?zzk2 ?zzk3 ?zzk4 ?zzk5 ?zzkK (came_c _ _ _ _ ?zzq0 _ _ _ _ _ _ _ _ ?zzq1 ?zza0 ?zza1 ?zzb0 ?zzb1 _ _ _ _ _ _ _ _ ?zzq2 ?zzc0 ?zzc1 ?zzd0 ?zzd1) ?zzkd ?zzku ?_; (case zzk1 => k_asm); (case zzk2 => k_asm); (case zzk3 => k_asm); (case zzk4 => k_asm); (case zzk5 => k_asm); (case zzkK => first | exact rfl | assumption); (case zzq0 => assumption); (case zzq1 => k_mem); (case zzq2 => k_mem); (case zza0 => assumption); (case zza1 => assumption); (case zzb0 => assumption); (case zzb1 => assumption); (case zzc0 => assumption); (case zzc1 => assumption); (case zzd0 => assumption); (case zzd1 => assumption); (case zzkd => ktr_room); (case zzku => ktr_units)); intro r9 n9 h9 tk9 F9 N9 e9; obtain ⟨e8, e7⟩ := e9; subst e7; subst e8; (try dsimp only); (try k_fold); (try k_sweep); walk_say "CALL 126")) | ((with_reducible show wpAny _ _ (PySem.setItem (Value.ref _) (Value.int _ _) _) _ _ _); (k_dflt (refine' list_set ?zzF ?zzN ?zzU ?zzh0 ?zzh1 ?zzh2 ?_; (case zzF => k_asm); (case zzN => k_asm); (case zzU => k_upd); (case zzh0 => omega); (case zzh1 => omega); (case zzh2 => omega)); intro h' F' N'; (try dsimp only at N'))) | (((with_reducible show wpAny _ _ (subscriptTail _ _ (Value.ref _) (Value.int _ _)) _ _ _); k_dflt (refine' list_at ?zzN ?zzm ?zzh0 ?zzh1 ?zze ?_ ?zzhs ?zzhg; (case zzN => k_asm); (case zzm => k_mem); (case zze => assumption); (case zzh0 => omega); (case zzh1 => omega); (case zzhs => with_unfolding_all rfl); (case zzhg => (intro _; with_unfolding_all rfl)); k_whole))) | ((with_reducible show wpAny _ _ (PySem.callWith _ (Value.ref _) _ _ _) _ _ _); (k_dflt (refine' callWith_F ?zzk1 ?_; (case zzk1 => exact FnAt.of (by k_asm) (by k_mem)); k_whole))) | ((with_reducible show wpAny _ _ (PySem.getAttr (Value.ref _) _ _) _ _ _); (k_dflt (refine' get_own ?zzk1 ?zzk2 ?zzk3 ?zzk4 ?zzk5 ?zzk6 ?zzk7 ?zzk8 ?zzk9 ?_; (case zzk1 => k_asm); (case zzk2 => k_asm); (case zzk3 => k_inst); (case zzk4 => k_is); (case zzk5 => k_is); (case zzk6 => k_is); (case zzk7 => k_is); (case zzk8 => first | assumption | k_get); (case zzk9 => k_handed); k_whole))) | (((with_reducible show wpAny _ _ (call (Value.builtin "len") [Value.ref _]) _ _ _); k_dflt (refine' len_M ?zzN ?zzm ?zzf ?_; (case zzN => k_asm); (case zzm => k_mem); (case zzf => omega); k_whole))) | ((with_reducible show wpAny _ _ (PySem.execs (_ :: _) _) _ _ _); ((with_reducible refine wpAny_execs_cons ?_); (try dsimp only); (try k_fold))) | walk1)) | (leave1; walk_say "STEP leave1"; try dsimp only)))
        (rename News _ _ _ _ => lN8)
        have hheld8 := hheld.mono hsub3
        refine' wait_same (kl2 := Dk) (vk2 := vk3) (vsE := vsE) (kvs := kvs) (evs := evs) (hheld.mono ?hh) hok lN8 ?m1 ?m2 ?m3 hik ?m4 i5 ?m5 (hD.mono ?hh2) ?m6 ?m7 ?hu ?_
        case m1 => k_dflt k_mem
        case m2 => exact List.Mem.head _
        case m3 => k_dflt k_mem
        case m4 => k_dflt k_mem
        case m5 => k_dflt k_mem
        case m6 => k_dflt k_mem
        case m7 => k_dflt k_mem
        case hu => ktr_units
        case hh => intro p hp; simp only [List.mem_cons, hsub3 p hp, or_true]
        case hh2 => intro p hp; simp only [List.mem_cons, hp, or_true]
        repeat' ((fail_if_success (with_reducible show wpAny _ _ (PySem.pyIter (Value.ref _)) _ _ _)); (fail_if_success (with_reducible show wpAny _ _ (PySem.compareOp _ (Value.ref _) (Value.ref _)) _ _ _)); (fail_if_success (with_reducible show wpAny _ _ (PySem.eval (PySem.Expr.ListComp _ _ _ _) _) _ _ _)); (fail_if_success (with_reducible show wpAny _ _ (PySem.exec (PySem.Stmt.For _ _ _ _ _) _) _ _ _)); (first | (k_unfold; (try dsimp only)) | (k_end; wrow_close) | (((with_reducible show wpAny _ _ (subscriptTail _ _ (Value.ref _) (Value.int _ _)) _ _ _); k_dflt (refine' kda_item (knd := PySem.intKind _ _) ?zzN ?zzm ?zzd ?zzk ?zzv ?_ ?zzhs ?zzhg; (case zzN => k_asm); (case zzm => k_mem); (case zzd => assumption); (case zzk => exact intKind_is _ _ _ _); (case zzv => assumption); (case zzhs => with_unfolding_all rfl); (case zzhg => (intro _; with_unfolding_all rfl)); k_whole))) | ((with_reducible show wpAny _ _ (PySem.setItem (Value.ref _) (Value.int _ _) _) _ _ _); (k_dflt (refine' kda_set (knd := PySem.intKind _ _) ?zzF ?zzN ?zzU ?zzd (intKind_is _ _ _ _) ?zzz ?_; (case zzF => k_asm); (case zzN => k_asm); (case zzU => k_updF); (case zzd => assumption); (case zzz => rw [sizeLine_eq]; omega)); intro h' o' F' N' hd'; (try dsimp only at N'))) | (((with_reducible show wpAny _ _ (call (Value.ref 126) _) _ _ _); k_dflt (refine' Ctr.use ?zzk1 ?zzk2 ?zzk3 ?zzk4 ?zzk5 ?zzkK (came_c _ _ _ _ ?zzq0 _ _ _ _ _ _ _ _ ?zzq1 ?zza0 ?zza1 ?zzb0 ?zzb1 _ _ _ _ _ _ _ _ ?zzq2 ?zzc0 ?zzc1 ?zzd0 ?zzd1) ?zzkd ?zzku ?_; (case zzk1 => k_asm); (case zzk2 => k_asm); (case zzk3 => k_asm); (case zzk4 => k_asm); (case zzk5 => k_asm); (case zzkK => first | exact rfl | assumption); (case zzq0 => assumption); (case zzq1 => k_mem); (case zzq2 => k_mem); (case zza0 => assumption); (case zza1 => assumption); (case zzb0 => assumption); (case zzb1 => assumption); (case zzc0 => assumption); (case zzc1 => assumption); (case zzd0 => assumption); (case zzd1 => assumption); (case zzkd => ktr_room); (case zzku => ktr_units)); intro r9 n9 h9 tk9 F9 N9 e9; obtain ⟨e8, e7⟩ := e9; subst e7; subst e8; (try dsimp only); (try k_fold); (try k_sweep); walk_say "CALL 126")) | ((with_reducible show wpAny _ _ (PySem.setItem (Value.ref _) (Value.int _ _) _) _ _ _); (k_dflt (refine' list_set ?zzF ?zzN ?zzU ?zzh0 ?zzh1 ?zzh2 ?_; (case zzF => k_asm); (case zzN => k_asm); (case zzU => k_upd); (case zzh0 => omega); (case zzh1 => omega); (case zzh2 => omega)); intro h' F' N'; (try dsimp only at N'))) | (((with_reducible show wpAny _ _ (subscriptTail _ _ (Value.ref _) (Value.int _ _)) _ _ _); k_dflt (refine' list_at ?zzN ?zzm ?zzh0 ?zzh1 ?zze ?_ ?zzhs ?zzhg; (case zzN => k_asm); (case zzm => k_mem); (case zze => assumption); (case zzh0 => omega); (case zzh1 => omega); (case zzhs => with_unfolding_all rfl); (case zzhg => (intro _; with_unfolding_all rfl)); k_whole))) | ((with_reducible show wpAny _ _ (PySem.callWith _ (Value.ref _) _ _ _) _ _ _); (k_dflt (refine' callWith_F ?zzk1 ?_; (case zzk1 => exact FnAt.of (by k_asm) (by k_mem)); k_whole))) | ((with_reducible show wpAny _ _ (PySem.getAttr (Value.ref _) _ _) _ _ _); (k_dflt (refine' get_own ?zzk1 ?zzk2 ?zzk3 ?zzk4 ?zzk5 ?zzk6 ?zzk7 ?zzk8 ?zzk9 ?_; (case zzk1 => k_asm); (case zzk2 => k_asm); (case zzk3 => k_inst); (case zzk4 => k_is); (case zzk5 => k_is); (case zzk6 => k_is); (case zzk7 => k_is); (case zzk8 => first | assumption | k_get); (case zzk9 => k_handed); k_whole))) | (((with_reducible show wpAny _ _ (call (Value.builtin "len") [Value.ref _]) _ _ _); k_dflt (refine' len_M ?zzN ?zzm ?zzf ?_; (case zzN => k_asm); (case zzm => k_mem); (case zzf => omega); k_whole))) | ((with_reducible show wpAny _ _ (PySem.execs (_ :: _) _) _ _ _); ((with_reducible refine wpAny_execs_cons ?_); (try dsimp only); (try k_fold))) | walk1 | (dsimp only; (first | (((with_reducible show wpAny _ _ (subscriptTail _ _ (Value.ref _) (Value.int _ _)) _ _ _); k_dflt (refine' kda_item (knd := PySem.intKind _ _) ?zzN ?zzm ?zzd ?zzk ?zzv ?_ ?zzhs ?zzhg; (case zzN => k_asm); (case zzm => k_mem); (case zzd => assumption); (case zzk => exact intKind_is _ _ _ _); (case zzv => assumption); (case zzhs => with_unfolding_all rfl); (case zzhg => (intro _; with_unfolding_all rfl)); k_whole))) | ((with_reducible show wpAny _ _ (PySem.setItem (Value.ref _) (Value.int _ _) _) _ _ _); (k_dflt (refine' kda_set (knd := PySem.intKind _ _) ?zzF ?zzN ?zzU ?zzd (intKind_is _ _ _ _) ?zzz ?_; (case zzF => k_asm); (case zzN => k_asm); (case zzU => k_updF); (case zzd => assumption); (case zzz => rw [sizeLine_eq]; omega)); intro h' o' F' N' hd'; (try dsimp only at N'))) | (((with_reducible show wpAny _ _ (call (Value.ref 126) _) _ _ _); k_dflt (refine' Ctr.use ?zzk1 ?zzk2 ?zzk3 ?zzk4 ?zzk5 ?zzkK (came_c _ _ _ _ ?zzq0 _ _ _ _ _ _ _ _ ?zzq1 ?zza0 ?zza1 ?zzb0 ?zzb1 _ _ _ _ _ _ _ _ ?zzq2 ?zzc0 ?zzc1 ?zzd0 ?zzd1) ?zzkd ?zzku ?_; (case zzk1 => k_asm); (case zzk2 => k_asm); (case zzk3 => k_asm); (case zzk4 => k_asm); (case zzk5 => k_asm); (case zzkK => first | exact rfl | assumption); (case zzq0 => assumption); (case zzq1 => k_mem); (case zzq2 => k_mem); (case zza0 => assumption); (case zza1 => assumption); (case zzb0 => assumption); (case zzb1 => assumption); (case zzc0 => assumption); (case zzc1 => assumption); (case zzd0 => assumption); (case zzd1 => assumption); (case zzkd => ktr_room); (case zzku => ktr_units)); intro r9 n9 h9 tk9 F9 N9 e9; obtain ⟨e8, e7⟩ := e9; subst e7; subst e8; (try dsimp only); (try k_fold); (try k_sweep); walk_say "CALL 126")) | ((with_reducible show wpAny _ _ (PySem.setItem (Value.ref _) (Value.int _ _) _) _ _ _); (k_dflt (refine' list_set ?zzF ?zzN ?zzU ?zzh0 ?zzh1 ?zzh2 ?_; (case zzF => k_asm); (case zzN => k_asm); (case zzU => k_upd); (case zzh0 => omega); (case zzh1 => omega); (case zzh2 => omega)); intro h' F' N'; (try dsimp only at N'))) | (((with_reducible show wpAny _ _ (subscriptTail _ _ (Value.ref _) (Value.int _ _)) _ _ _); k_dflt (refine' list_at ?zzN ?zzm ?zzh0 ?zzh1 ?zze ?_ ?zzhs ?zzhg; (case zzN => k_asm); (case zzm => k_mem); (case zze => assumption); (case zzh0 => omega); (case zzh1 => omega); (case zzhs => with_unfolding_all rfl); (case zzhg => (intro _; with_unfolding_all rfl)); k_whole))) | ((with_reducible show wpAny _ _ (PySem.callWith _ (Value.ref _) _ _ _) _ _ _); (k_dflt (refine' callWith_F ?zzk1 ?_; (case zzk1 => exact FnAt.of (by k_asm) (by k_mem)); k_whole))) | ((with_reducible show wpAny _ _ (PySem.getAttr (Value.ref _) _ _) _ _ _); (k_dflt (refine' get_own ?zzk1 ?zzk2 ?zzk3 ?zzk4 ?zzk5 ?zzk6 ?zzk7 ?zzk8 ?zzk9 ?_; (case zzk1 => k_asm); (case zzk2 => k_asm); (case zzk3 => k_inst); (case zzk4 => k_is); (case zzk5 => k_is); (case zzk6 => k_is); (case zzk7 => k_is); (case zzk8 => first | assumption | k_get); (case zzk9 => k_handed); k_whole))) | (((with_reducible show wpAny _ _ (call (Value.builtin "len") [Value.ref _]) _ _ _); k_dflt (refine' len_M ?zzN ?zzm ?zzf ?_; (case zzN => k_asm); (case zzm => k_mem); (case zzf => omega); k_whole))) | ((with_reducible show wpAny _ _ (PySem.execs (_ :: _) _) _ _ _); ((with_reducible refine wpAny_execs_cons ?_); (try dsimp only); (try k_fold))) | walk1)) | (leave1; walk_say "STEP leave1"; try dsimp only)))
        (rename News _ _ _ _ => lN9)
        obtain ⟨r4, N10, off4, put⟩ := split3 (a := hl) (b := la) (c := lb) (o1 := ho) (o2 := listOf (evs.map (lastV kvs)).toArray n2) (o3 := listOf (evs.map (lastV kvs)).toArray (evs.map (lastV kvs)).length) lN9 (by k_dflt k_mem) (by k_dflt k_mem) (by k_dflt k_mem)
        have ol3 : ∀ p ∈ r3, @Ne Nat p.1 lb := off1_mem o6.2.2.2.2.2
        have hla3 : ∀ p ∈ r3, @Ne Nat p.1 la := fun p hp => off3 p hp la (by simp)
        have p3 : ∀ p ∈ r3, @Ne Nat p.1 hl → p ∈ r4 := fun p hp a1 => put p (by simp only [List.mem_cons, hp, or_true]) a1 (hla3 p hp) (ol3 p hp)
        have p2 : ∀ p ∈ r2, p ∈ r4 := fun p hp => p3 p (hsub2 p hp) (off2 p hp hl (by simp))
        have p0 : ∀ p ∈ rest, p ∈ r4 := fun p hp => p2 p (hsub p hp)
        have q1 := p3 _ q128 (by show @Ne Nat _ _; omega)
        have q2 := p3 _ qth (by show @Ne Nat _ _; omega)
        have q3 := p3 _ hwt (news_sep (x := tupOf [.str "await" tw, .ref kl, .ref evl, .ref la] 0) (y := ho) lN9 (by simp only [List.mem_cons, hwt, or_true]) (by simp only [List.mem_cons, qhl, or_true]) (by rw [dict_cls hd0]; simp))
        have q4 := put (dt, dictOf es' nT') (by k_dflt k_mem) (by show @Ne Nat _ _; omega) (by show @Ne Nat _ _; omega) (by show @Ne Nat _ _; omega)
        have q5 := p2 _ d1
        have q6 := p2 _ d2
        have hM4 := hMa.mono p2
        have hT4 := hTb.mono p2
        have z1 : @Ne Nat hl la := hla3 _ qhl
        have z2 : @Ne Nat hl lb := ol3 _ qhl
        have z3 : @Ne Nat la lb := o6.2.2.2.2.1
        clear put p3 hla3 ol3 lN9
        (rename Fr _ _ _ _ => lF)
        refine' For_invVF lF ?kf1 ?kf2 ?_
        case kf1 => exact rfl
        case kf2 => exact rfl
        repeat' ((fail_if_success (with_reducible show wpAny _ _ (PySem.pyIter (Value.ref _)) _ _ _)); (first | (k_unfold; (try dsimp only)) | (k_end; wrow_close) | (((with_reducible show wpAny _ _ (subscriptTail _ _ (Value.ref _) (Value.int _ _)) _ _ _); k_dflt (refine' kda_item (knd := PySem.intKind _ _) ?zzN ?zzm ?zzd ?zzk ?zzv ?_ ?zzhs ?zzhg; (case zzN => k_asm); (case zzm => k_mem); (case zzd => assumption); (case zzk => exact intKind_is _ _ _ _); (case zzv => assumption); (case zzhs => with_unfolding_all rfl); (case zzhg => (intro _; with_unfolding_all rfl)); k_whole))) | ((with_reducible show wpAny _ _ (PySem.setItem (Value.ref _) (Value.int _ _) _) _ _ _); (k_dflt (refine' kda_set (knd := PySem.intKind _ _) ?zzF ?zzN ?zzU ?zzd (intKind_is _ _ _ _) ?zzz ?_; (case zzF => k_asm); (case zzN => k_asm); (case zzU => k_updF); (case zzd => assumption); (case zzz => rw [sizeLine_eq]; omega)); intro h' o' F' N' hd'; (try dsimp only at N'))) | (((with_reducible show wpAny _ _ (call (Value.ref 126) _) _ _ _); k_dflt (refine' Ctr.use ?zzk1 ?zzk2 ?zzk3 ?zzk4 ?zzk5 ?zzkK (came_c _ _ _ _ ?zzq0 _ _ _ _ _ _ _ _ ?zzq1 ?zza0 ?zza1 ?zzb0 ?zzb1 _ _ _ _ _ _ _ _ ?zzq2 ?zzc0 ?zzc1 ?zzd0 ?zzd1) ?zzkd ?zzku ?_; (case zzk1 => k_asm); (case zzk2 => k_asm); (case zzk3 => k_asm); (case zzk4 => k_asm); (case zzk5 => k_asm); (case zzkK => first | exact rfl | assumption); (case zzq0 => assumption); (case zzq1 => k_mem); (case zzq2 => k_mem); (case zza0 => assumption); (case zza1 => assumption); (case zzb0 => assumption); (case zzb1 => assumption); (case zzc0 => assumption); (case zzc1 => assumption); (case zzd0 => assumption); (case zzd1 => assumption); (case zzkd => ktr_room); (case zzku => ktr_units)); intro r9 n9 h9 tk9 F9 N9 e9; obtain ⟨e8, e7⟩ := e9; subst e7; subst e8; (try dsimp only); (try k_fold); (try k_sweep); walk_say "CALL 126")) | ((with_reducible show wpAny _ _ (PySem.setItem (Value.ref _) (Value.int _ _) _) _ _ _); (k_dflt (refine' list_set ?zzF ?zzN ?zzU ?zzh0 ?zzh1 ?zzh2 ?_; (case zzF => k_asm); (case zzN => k_asm); (case zzU => k_upd); (case zzh0 => omega); (case zzh1 => omega); (case zzh2 => omega)); intro h' F' N'; (try dsimp only at N'))) | (((with_reducible show wpAny _ _ (subscriptTail _ _ (Value.ref _) (Value.int _ _)) _ _ _); k_dflt (refine' list_at ?zzN ?zzm ?zzh0 ?zzh1 ?zze ?_ ?zzhs ?zzhg; (case zzN => k_asm); (case zzm => k_mem); (case zze => assumption); (case zzh0 => omega); (case zzh1 => omega); (case zzhs => with_unfolding_all rfl); (case zzhg => (intro _; with_unfolding_all rfl)); k_whole))) | ((with_reducible show wpAny _ _ (PySem.callWith _ (Value.ref _) _ _ _) _ _ _); (k_dflt (refine' callWith_F ?zzk1 ?_; (case zzk1 => exact FnAt.of (by k_asm) (by k_mem)); k_whole))) | ((with_reducible show wpAny _ _ (PySem.getAttr (Value.ref _) _ _) _ _ _); (k_dflt (refine' get_own ?zzk1 ?zzk2 ?zzk3 ?zzk4 ?zzk5 ?zzk6 ?zzk7 ?zzk8 ?zzk9 ?_; (case zzk1 => k_asm); (case zzk2 => k_asm); (case zzk3 => k_inst); (case zzk4 => k_is); (case zzk5 => k_is); (case zzk6 => k_is); (case zzk7 => k_is); (case zzk8 => first | assumption | k_get); (case zzk9 => k_handed); k_whole))) | (((with_reducible show wpAny _ _ (call (Value.builtin "len") [Value.ref _]) _ _ _); k_dflt (refine' len_M ?zzN ?zzm ?zzf ?_; (case zzN => k_asm); (case zzm => k_mem); (case zzf => omega); k_whole))) | ((with_reducible show wpAny _ _ (PySem.execs (_ :: _) _) _ _ _); ((with_reducible refine wpAny_execs_cons ?_); (try dsimp only); (try k_fold))) | walk1 | (dsimp only; (first | (((with_reducible show wpAny _ _ (subscriptTail _ _ (Value.ref _) (Value.int _ _)) _ _ _); k_dflt (refine' kda_item (knd := PySem.intKind _ _) ?zzN ?zzm ?zzd ?zzk ?zzv ?_ ?zzhs ?zzhg; (case zzN => k_asm); (case zzm => k_mem); (case zzd => assumption); (case zzk => exact intKind_is _ _ _ _); (case zzv => assumption); (case zzhs => with_unfolding_all rfl); (case zzhg => (intro _; with_unfolding_all rfl)); k_whole))) | ((with_reducible show wpAny _ _ (PySem.setItem (Value.ref _) (Value.int _ _) _) _ _ _); (k_dflt (refine' kda_set (knd := PySem.intKind _ _) ?zzF ?zzN ?zzU ?zzd (intKind_is _ _ _ _) ?zzz ?_; (case zzF => k_asm); (case zzN => k_asm); (case zzU => k_updF); (case zzd => assumption); (case zzz => rw [sizeLine_eq]; omega)); intro h' o' F' N' hd'; (try dsimp only at N'))) | (((with_reducible show wpAny _ _ (call (Value.ref 126) _) _ _ _); k_dflt (refine' Ctr.use ?zzk1 ?zzk2 ?zzk3 ?zzk4 ?zzk5 ?zzkK (came_c _ _ _ _ ?zzq0 _ _ _ _ _ _ _ _ ?zzq1 ?zza0 ?zza1 ?zzb0 ?zzb1 _ _ _ _ _ _ _ _ ?zzq2 ?zzc0 ?zzc1 ?zzd0 ?zzd1) ?zzkd ?zzku ?_; (case zzk1 => k_asm); (case zzk2 => k_asm); (case zzk3 => k_asm); (case zzk4 => k_asm); (case zzk5 => k_asm); (case zzkK => first | exact rfl | assumption); (case zzq0 => assumption); (case zzq1 => k_mem); (case zzq2 => k_mem); (case zza0 => assumption); (case zza1 => assumption); (case zzb0 => assumption); (case zzb1 => assumption); (case zzc0 => assumption); (case zzc1 => assumption); (case zzd0 => assumption); (case zzd1 => assumption); (case zzkd => ktr_room); (case zzku => ktr_units)); intro r9 n9 h9 tk9 F9 N9 e9; obtain ⟨e8, e7⟩ := e9; subst e7; subst e8; (try dsimp only); (try k_fold); (try k_sweep); walk_say "CALL 126")) | ((with_reducible show wpAny _ _ (PySem.setItem (Value.ref _) (Value.int _ _) _) _ _ _); (k_dflt (refine' list_set ?zzF ?zzN ?zzU ?zzh0 ?zzh1 ?zzh2 ?_; (case zzF => k_asm); (case zzN => k_asm); (case zzU => k_upd); (case zzh0 => omega); (case zzh1 => omega); (case zzh2 => omega)); intro h' F' N'; (try dsimp only at N'))) | (((with_reducible show wpAny _ _ (subscriptTail _ _ (Value.ref _) (Value.int _ _)) _ _ _); k_dflt (refine' list_at ?zzN ?zzm ?zzh0 ?zzh1 ?zze ?_ ?zzhs ?zzhg; (case zzN => k_asm); (case zzm => k_mem); (case zze => assumption); (case zzh0 => omega); (case zzh1 => omega); (case zzhs => with_unfolding_all rfl); (case zzhg => (intro _; with_unfolding_all rfl)); k_whole))) | ((with_reducible show wpAny _ _ (PySem.callWith _ (Value.ref _) _ _ _) _ _ _); (k_dflt (refine' callWith_F ?zzk1 ?_; (case zzk1 => exact FnAt.of (by k_asm) (by k_mem)); k_whole))) | ((with_reducible show wpAny _ _ (PySem.getAttr (Value.ref _) _ _) _ _ _); (k_dflt (refine' get_own ?zzk1 ?zzk2 ?zzk3 ?zzk4 ?zzk5 ?zzk6 ?zzk7 ?zzk8 ?zzk9 ?_; (case zzk1 => k_asm); (case zzk2 => k_asm); (case zzk3 => k_inst); (case zzk4 => k_is); (case zzk5 => k_is); (case zzk6 => k_is); (case zzk7 => k_is); (case zzk8 => first | assumption | k_get); (case zzk9 => k_handed); k_whole))) | (((with_reducible show wpAny _ _ (call (Value.builtin "len") [Value.ref _]) _ _ _); k_dflt (refine' len_M ?zzN ?zzm ?zzf ?_; (case zzN => k_asm); (case zzm => k_mem); (case zzf => omega); k_whole))) | ((with_reducible show wpAny _ _ (PySem.execs (_ :: _) _) _ _ _); ((with_reducible refine wpAny_execs_cons ?_); (try dsimp only); (try k_fold))) | walk1)) | (leave1; walk_say "STEP leave1"; try dsimp only)))
        (rename Fr _ _ _ _ => lF)
        refine iter_listS ["row", "key", "due", "at", "sort", "expr"] (WaitJ w nk P evs hl la lb rest r4) (by rfl) (vs := vch) (nn := nch) ?hm lF N10 (.mk ho kvs hv _ _ hd0 (by omega) hheld hP) ?turn ?done
        case hm => simp only [List.mem_cons, p0 _ hch, or_true]
        case done =>
          intro u nx h7 tk7 hJ0 F7 N7
          cases hJ0 with | mk ho1 kvs1 hv1 n3 n4 hd1 hk1 hheld1 hP1 => ?_
          dsimp only
          repeat' (first | (k_unfold; (try dsimp only)) | (k_end; wrow_close) | (((with_reducible show wpAny _ _ (subscriptTail _ _ (Value.ref _) (Value.int _ _)) _ _ _); k_dflt (refine' kda_item (knd := PySem.intKind _ _) ?zzN ?zzm ?zzd ?zzk ?zzv ?_ ?zzhs ?zzhg; (case zzN => k_asm); (case zzm => k_mem); (case zzd => assumption); (case zzk => exact intKind_is _ _ _ _); (case zzv => assumption); (case zzhs => with_unfolding_all rfl); (case zzhg => (intro _; with_unfolding_all rfl)); k_whole))) | ((with_reducible show wpAny _ _ (PySem.setItem (Value.ref _) (Value.int _ _) _) _ _ _); (k_dflt (refine' kda_set (knd := PySem.intKind _ _) ?zzF ?zzN ?zzU ?zzd (intKind_is _ _ _ _) ?zzz ?_; (case zzF => k_asm); (case zzN => k_asm); (case zzU => k_updF); (case zzd => assumption); (case zzz => rw [sizeLine_eq]; omega)); intro h' o' F' N' hd'; (try dsimp only at N'))) | (((with_reducible show wpAny _ _ (call (Value.ref 126) _) _ _ _); k_dflt (refine' Ctr.use ?zzk1 ?zzk2 ?zzk3 ?zzk4 ?zzk5 ?zzkK (came_c _ _ _ _ ?zzq0 _ _ _ _ _ _ _ _ ?zzq1 ?zza0 ?zza1 ?zzb0 ?zzb1 _ _ _ _ _ _ _ _ ?zzq2 ?zzc0 ?zzc1 ?zzd0 ?zzd1) ?zzkd ?zzku ?_; (case zzk1 => k_asm); (case zzk2 => k_asm); (case zzk3 => k_asm); (case zzk4 => k_asm); (case zzk5 => k_asm); (case zzkK => first | exact rfl | assumption); (case zzq0 => assumption); (case zzq1 => k_mem); (case zzq2 => k_mem); (case zza0 => assumption); (case zza1 => assumption); (case zzb0 => assumption); (case zzb1 => assumption); (case zzc0 => assumption); (case zzc1 => assumption); (case zzd0 => assumption); (case zzd1 => assumption); (case zzkd => ktr_room); (case zzku => ktr_units)); intro r9 n9 h9 tk9 F9 N9 e9; obtain ⟨e8, e7⟩ := e9; subst e7; subst e8; (try dsimp only); (try k_fold); (try k_sweep); walk_say "CALL 126")) | ((with_reducible show wpAny _ _ (PySem.setItem (Value.ref _) (Value.int _ _) _) _ _ _); (k_dflt (refine' list_set ?zzF ?zzN ?zzU ?zzh0 ?zzh1 ?zzh2 ?_; (case zzF => k_asm); (case zzN => k_asm); (case zzU => k_upd); (case zzh0 => omega); (case zzh1 => omega); (case zzh2 => omega)); intro h' F' N'; (try dsimp only at N'))) | (((with_reducible show wpAny _ _ (subscriptTail _ _ (Value.ref _) (Value.int _ _)) _ _ _); k_dflt (refine' list_at ?zzN ?zzm ?zzh0 ?zzh1 ?zze ?_ ?zzhs ?zzhg; (case zzN => k_asm); (case zzm => k_mem); (case zze => assumption); (case zzh0 => omega); (case zzh1 => omega); (case zzhs => with_unfolding_all rfl); (case zzhg => (intro _; with_unfolding_all rfl)); k_whole))) | ((with_reducible show wpAny _ _ (PySem.callWith _ (Value.ref _) _ _ _) _ _ _); (k_dflt (refine' callWith_F ?zzk1 ?_; (case zzk1 => exact FnAt.of (by k_asm) (by k_mem)); k_whole))) | ((with_reducible show wpAny _ _ (PySem.getAttr (Value.ref _) _ _) _ _ _); (k_dflt (refine' get_own ?zzk1 ?zzk2 ?zzk3 ?zzk4 ?zzk5 ?zzk6 ?zzk7 ?zzk8 ?zzk9 ?_; (case zzk1 => k_asm); (case zzk2 => k_asm); (case zzk3 => k_inst); (case zzk4 => k_is); (case zzk5 => k_is); (case zzk6 => k_is); (case zzk7 => k_is); (case zzk8 => first | assumption | k_get); (case zzk9 => k_handed); k_whole))) | (((with_reducible show wpAny _ _ (call (Value.builtin "len") [Value.ref _]) _ _ _); k_dflt (refine' len_M ?zzN ?zzm ?zzf ?_; (case zzN => k_asm); (case zzm => k_mem); (case zzf => omega); k_whole))) | ((with_reducible show wpAny _ _ (PySem.execs (_ :: _) _) _ _ _); ((with_reducible refine wpAny_execs_cons ?_); (try dsimp only); (try k_fold))) | walk1 | (dsimp only; (first | (((with_reducible show wpAny _ _ (subscriptTail _ _ (Value.ref _) (Value.int _ _)) _ _ _); k_dflt (refine' kda_item (knd := PySem.intKind _ _) ?zzN ?zzm ?zzd ?zzk ?zzv ?_ ?zzhs ?zzhg; (case zzN => k_asm); (case zzm => k_mem); (case zzd => assumption); (case zzk => exact intKind_is _ _ _ _); (case zzv => assumption); (case zzhs => with_unfolding_all rfl); (case zzhg => (intro _; with_unfolding_all rfl)); k_whole))) | ((with_reducible show wpAny _ _ (PySem.setItem (Value.ref _) (Value.int _ _) _) _ _ _); (k_dflt (refine' kda_set (knd := PySem.intKind _ _) ?zzF ?zzN ?zzU ?zzd (intKind_is _ _ _ _) ?zzz ?_; (case zzF => k_asm); (case zzN => k_asm); (case zzU => k_updF); (case zzd => assumption); (case zzz => rw [sizeLine_eq]; omega)); intro h' o' F' N' hd'; (try dsimp only at N'))) | (((with_reducible show wpAny _ _ (call (Value.ref 126) _) _ _ _); k_dflt (refine' Ctr.use ?zzk1 ?zzk2 ?zzk3 ?zzk4 ?zzk5 ?zzkK (came_c _ _ _ _ ?zzq0 _ _ _ _ _ _ _ _ ?zzq1 ?zza0 ?zza1 ?zzb0 ?zzb1 _ _ _ _ _ _ _ _ ?zzq2 ?zzc0 ?zzc1 ?zzd0 ?zzd1) ?zzkd ?zzku ?_; (case zzk1 => k_asm); (case zzk2 => k_asm); (case zzk3 => k_asm); (case zzk4 => k_asm); (case zzk5 => k_asm); (case zzkK => first | exact rfl | assumption); (case zzq0 => assumption); (case zzq1 => k_mem); (case zzq2 => k_mem); (case zza0 => assumption); (case zza1 => assumption); (case zzb0 => assumption); (case zzb1 => assumption); (case zzc0 => assumption); (case zzc1 => assumption); (case zzd0 => assumption); (case zzd1 => assumption); (case zzkd => ktr_room); (case zzku => ktr_units)); intro r9 n9 h9 tk9 F9 N9 e9; obtain ⟨e8, e7⟩ := e9; subst e7; subst e8; (try dsimp only); (try k_fold); (try k_sweep); walk_say "CALL 126")) | ((with_reducible show wpAny _ _ (PySem.setItem (Value.ref _) (Value.int _ _) _) _ _ _); (k_dflt (refine' list_set ?zzF ?zzN ?zzU ?zzh0 ?zzh1 ?zzh2 ?_; (case zzF => k_asm); (case zzN => k_asm); (case zzU => k_upd); (case zzh0 => omega); (case zzh1 => omega); (case zzh2 => omega)); intro h' F' N'; (try dsimp only at N'))) | (((with_reducible show wpAny _ _ (subscriptTail _ _ (Value.ref _) (Value.int _ _)) _ _ _); k_dflt (refine' list_at ?zzN ?zzm ?zzh0 ?zzh1 ?zze ?_ ?zzhs ?zzhg; (case zzN => k_asm); (case zzm => k_mem); (case zze => assumption); (case zzh0 => omega); (case zzh1 => omega); (case zzhs => with_unfolding_all rfl); (case zzhg => (intro _; with_unfolding_all rfl)); k_whole))) | ((with_reducible show wpAny _ _ (PySem.callWith _ (Value.ref _) _ _ _) _ _ _); (k_dflt (refine' callWith_F ?zzk1 ?_; (case zzk1 => exact FnAt.of (by k_asm) (by k_mem)); k_whole))) | ((with_reducible show wpAny _ _ (PySem.getAttr (Value.ref _) _ _) _ _ _); (k_dflt (refine' get_own ?zzk1 ?zzk2 ?zzk3 ?zzk4 ?zzk5 ?zzk6 ?zzk7 ?zzk8 ?zzk9 ?_; (case zzk1 => k_asm); (case zzk2 => k_asm); (case zzk3 => k_inst); (case zzk4 => k_is); (case zzk5 => k_is); (case zzk6 => k_is); (case zzk7 => k_is); (case zzk8 => first | assumption | k_get); (case zzk9 => k_handed); k_whole))) | (((with_reducible show wpAny _ _ (call (Value.builtin "len") [Value.ref _]) _ _ _); k_dflt (refine' len_M ?zzN ?zzm ?zzf ?_; (case zzN => k_asm); (case zzm => k_mem); (case zzf => omega); k_whole))) | ((with_reducible show wpAny _ _ (PySem.execs (_ :: _) _) _ _ _); ((with_reducible refine wpAny_execs_cons ?_); (try dsimp only); (try k_fold))) | walk1)) | (leave1; walk_say "STEP leave1"; try dsimp only) | fail "no step")
          exact wait_fin hret (by k_asm) (by k_asm) q1 p0 off p2 off2 hTb hd1 hheld1 hP1
        case turn =>
          intro i v u nx h7 tk7 own hvi hown hchx hJ0 F7 N7
          cases hJ0 with | mk ho1 kvs1 hv1 n3 n4 hd1 hk1 hheld1 hP1 => ?_
          have hi8 : i < vch.length := (List.getElem?_eq_some_iff.mp hvi).1
          obtain ⟨r, ro, kvr, erv, rlo, hro, hdr, hkr, hrv⟩ := hrow v (List.mem_of_getElem? hvi)
          subst erv
          simp only [List.cons_append] at N7
          obtain ⟨r5, hr5⟩ : ∃ r5, r5 = r4 ++ own := ⟨_, rfl⟩
          rw [← hr5] at N7
          have s5 : ∀ p ∈ r4, p ∈ r5 := fun p hp => by rw [hr5]; exact List.mem_append.mpr (.inl hp)
          have off5 : OwnOff r5 [hl, la, lb] := by
            intro p hp b hb
            rw [hr5] at hp
            rcases List.mem_append.mp hp with h | h
            · exact off4 p h b hb
            · refine hown p h b ?_
              simp only [List.mem_cons, List.mem_nil_iff, or_false] at hb
              simp only [List.map_cons, List.mem_cons]
              rcases hb with h | h | h <;> simp only [h, true_or, or_true]
          have p5 : ∀ p ∈ rest, p ∈ r5 := fun p hp => s5 p (p0 p hp)
          replace q1 := s5 _ q1
          replace q2 := s5 _ q2
          replace q3 := s5 _ q3
          replace q4 := s5 _ q4
          replace q5 := s5 _ q5
          replace q6 := s5 _ q6
          have hM5 := hM4.mono s5
          have hro5 := p5 _ hro
          have hev5 := p5 _ hevl0
          clear N10
          repeat' ((fail_if_success (with_reducible show wpAny _ _ (PySem.exec (PySem.Stmt.For _ _ _ _ _) _) _ _ _)); (first | (k_unfold; (try dsimp only)) | (k_end; wrow_close) | (((with_reducible show wpAny _ _ (subscriptTail _ _ (Value.ref _) (Value.int _ _)) _ _ _); k_dflt (refine' kda_item (knd := PySem.intKind _ _) ?zzN ?zzm ?zzd ?zzk ?zzv ?_ ?zzhs ?zzhg; (case zzN => k_asm); (case zzm => k_mem); (case zzd => assumption); (case zzk => exact intKind_is _ _ _ _); (case zzv => assumption); (case zzhs => with_unfolding_all rfl); (case zzhg => (intro _; with_unfolding_all rfl)); k_whole))) | ((with_reducible show wpAny _ _ (PySem.setItem (Value.ref _) (Value.int _ _) _) _ _ _); (k_dflt (refine' kda_set (knd := PySem.intKind _ _) ?zzF ?zzN ?zzU ?zzd (intKind_is _ _ _ _) ?zzz ?_; (case zzF => k_asm); (case zzN => k_asm); (case zzU => k_updF); (case zzd => assumption); (case zzz => rw [sizeLine_eq]; omega)); intro h' o' F' N' hd'; (try dsimp only at N'))) | (((with_reducible show wpAny _ _ (call (Value.ref 126) _) _ _ _); k_dflt (refine' Ctr.use ?zzk1 ?zzk2 ?zzk3 ?zzk4 ?zzk5 ?zzkK (came_c _ _ _ _ ?zzq0 _ _ _ _ _ _ _ _ ?zzq1 ?zza0 ?zza1 ?zzb0 ?zzb1 _ _ _ _ _ _ _ _ ?zzq2 ?zzc0 ?zzc1 ?zzd0 ?zzd1) ?zzkd ?zzku ?_; (case zzk1 => k_asm); (case zzk2 => k_asm); (case zzk3 => k_asm); (case zzk4 => k_asm); (case zzk5 => k_asm); (case zzkK => first | exact rfl | assumption); (case zzq0 => assumption); (case zzq1 => k_mem); (case zzq2 => k_mem); (case zza0 => assumption); (case zza1 => assumption); (case zzb0 => assumption); (case zzb1 => assumption); (case zzc0 => assumption); (case zzc1 => assumption); (case zzd0 => assumption); (case zzd1 => assumption); (case zzkd => ktr_room); (case zzku => ktr_units)); intro r9 n9 h9 tk9 F9 N9 e9; obtain ⟨e8, e7⟩ := e9; subst e7; subst e8; (try dsimp only); (try k_fold); (try k_sweep); walk_say "CALL 126")) | ((with_reducible show wpAny _ _ (PySem.setItem (Value.ref _) (Value.int _ _) _) _ _ _); (k_dflt (refine' list_set ?zzF ?zzN ?zzU ?zzh0 ?zzh1 ?zzh2 ?_; (case zzF => k_asm); (case zzN => k_asm); (case zzU => k_upd); (case zzh0 => omega); (case zzh1 => omega); (case zzh2 => omega)); intro h' F' N'; (try dsimp only at N'))) | (((with_reducible show wpAny _ _ (subscriptTail _ _ (Value.ref _) (Value.int _ _)) _ _ _); k_dflt (refine' list_at ?zzN ?zzm ?zzh0 ?zzh1 ?zze ?_ ?zzhs ?zzhg; (case zzN => k_asm); (case zzm => k_mem); (case zze => assumption); (case zzh0 => omega); (case zzh1 => omega); (case zzhs => with_unfolding_all rfl); (case zzhg => (intro _; with_unfolding_all rfl)); k_whole))) | ((with_reducible show wpAny _ _ (PySem.callWith _ (Value.ref _) _ _ _) _ _ _); (k_dflt (refine' callWith_F ?zzk1 ?_; (case zzk1 => exact FnAt.of (by k_asm) (by k_mem)); k_whole))) | ((with_reducible show wpAny _ _ (PySem.getAttr (Value.ref _) _ _) _ _ _); (k_dflt (refine' get_own ?zzk1 ?zzk2 ?zzk3 ?zzk4 ?zzk5 ?zzk6 ?zzk7 ?zzk8 ?zzk9 ?_; (case zzk1 => k_asm); (case zzk2 => k_asm); (case zzk3 => k_inst); (case zzk4 => k_is); (case zzk5 => k_is); (case zzk6 => k_is); (case zzk7 => k_is); (case zzk8 => first | assumption | k_get); (case zzk9 => k_handed); k_whole))) | (((with_reducible show wpAny _ _ (call (Value.builtin "len") [Value.ref _]) _ _ _); k_dflt (refine' len_M ?zzN ?zzm ?zzf ?_; (case zzN => k_asm); (case zzm => k_mem); (case zzf => omega); k_whole))) | ((with_reducible show wpAny _ _ (PySem.execs (_ :: _) _) _ _ _); ((with_reducible refine wpAny_execs_cons ?_); (try dsimp only); (try k_fold))) | walk1 | (dsimp only; (first | (((with_reducible show wpAny _ _ (subscriptTail _ _ (Value.ref _) (Value.int _ _)) _ _ _); k_dflt (refine' kda_item (knd := PySem.intKind _ _) ?zzN ?zzm ?zzd ?zzk ?zzv ?_ ?zzhs ?zzhg; (case zzN => k_asm); (case zzm => k_mem); (case zzd => assumption); (case zzk => exact intKind_is _ _ _ _); (case zzv => assumption); (case zzhs => with_unfolding_all rfl); (case zzhg => (intro _; with_unfolding_all rfl)); k_whole))) | ((with_reducible show wpAny _ _ (PySem.setItem (Value.ref _) (Value.int _ _) _) _ _ _); (k_dflt (refine' kda_set (knd := PySem.intKind _ _) ?zzF ?zzN ?zzU ?zzd (intKind_is _ _ _ _) ?zzz ?_; (case zzF => k_asm); (case zzN => k_asm); (case zzU => k_updF); (case zzd => assumption); (case zzz => rw [sizeLine_eq]; omega)); intro h' o' F' N' hd'; (try dsimp only at N'))) | (((with_reducible show wpAny _ _ (call (Value.ref 126) _) _ _ _); k_dflt (refine' Ctr.use ?zzk1 ?zzk2 ?zzk3 ?zzk4 ?zzk5 ?zzkK (came_c _ _ _ _ ?zzq0 _ _ _ _ _ _ _ _ ?zzq1 ?zza0 ?zza1 ?zzb0 ?zzb1 _ _ _ _ _ _ _ _ ?zzq2 ?zzc0 ?zzc1 ?zzd0 ?zzd1) ?zzkd ?zzku ?_; (case zzk1 => k_asm); (case zzk2 => k_asm); (case zzk3 => k_asm); (case zzk4 => k_asm); (case zzk5 => k_asm); (case zzkK => first | exact rfl | assumption); (case zzq0 => assumption); (case zzq1 => k_mem); (case zzq2 => k_mem); (case zza0 => assumption); (case zza1 => assumption); (case zzb0 => assumption); (case zzb1 => assumption); (case zzc0 => assumption); (case zzc1 => assumption); (case zzd0 => assumption); (case zzd1 => assumption); (case zzkd => ktr_room); (case zzku => ktr_units)); intro r9 n9 h9 tk9 F9 N9 e9; obtain ⟨e8, e7⟩ := e9; subst e7; subst e8; (try dsimp only); (try k_fold); (try k_sweep); walk_say "CALL 126")) | ((with_reducible show wpAny _ _ (PySem.setItem (Value.ref _) (Value.int _ _) _) _ _ _); (k_dflt (refine' list_set ?zzF ?zzN ?zzU ?zzh0 ?zzh1 ?zzh2 ?_; (case zzF => k_asm); (case zzN => k_asm); (case zzU => k_upd); (case zzh0 => omega); (case zzh1 => omega); (case zzh2 => omega)); intro h' F' N'; (try dsimp only at N'))) | (((with_reducible show wpAny _ _ (subscriptTail _ _ (Value.ref _) (Value.int _ _)) _ _ _); k_dflt (refine' list_at ?zzN ?zzm ?zzh0 ?zzh1 ?zze ?_ ?zzhs ?zzhg; (case zzN => k_asm); (case zzm => k_mem); (case zze => assumption); (case zzh0 => omega); (case zzh1 => omega); (case zzhs => with_unfolding_all rfl); (case zzhg => (intro _; with_unfolding_all rfl)); k_whole))) | ((with_reducible show wpAny _ _ (PySem.callWith _ (Value.ref _) _ _ _) _ _ _); (k_dflt (refine' callWith_F ?zzk1 ?_; (case zzk1 => exact FnAt.of (by k_asm) (by k_mem)); k_whole))) | ((with_reducible show wpAny _ _ (PySem.getAttr (Value.ref _) _ _) _ _ _); (k_dflt (refine' get_own ?zzk1 ?zzk2 ?zzk3 ?zzk4 ?zzk5 ?zzk6 ?zzk7 ?zzk8 ?zzk9 ?_; (case zzk1 => k_asm); (case zzk2 => k_asm); (case zzk3 => k_inst); (case zzk4 => k_is); (case zzk5 => k_is); (case zzk6 => k_is); (case zzk7 => k_is); (case zzk8 => first | assumption | k_get); (case zzk9 => k_handed); k_whole))) | (((with_reducible show wpAny _ _ (call (Value.builtin "len") [Value.ref _]) _ _ _); k_dflt (refine' len_M ?zzN ?zzm ?zzf ?_; (case zzN => k_asm); (case zzm => k_mem); (case zzf => omega); k_whole))) | ((with_reducible show wpAny _ _ (PySem.execs (_ :: _) _) _ _ _); ((with_reducible refine wpAny_execs_cons ?_); (try dsimp only); (try k_fold))) | walk1)) | (leave1; walk_say "STEP leave1"; try dsimp only)))
          (rename Fr _ _ _ _ => lF)
          refine' For_invVF lF ?kf1 ?kf2 ?_
          case kf1 => exact rfl
          case kf2 => exact rfl
          repeat' ((fail_if_success (with_reducible show wpAny _ _ (PySem.pyIter (Value.ref _)) _ _ _)); (first | (k_unfold; (try dsimp only)) | (k_end; wrow_close) | (((with_reducible show wpAny _ _ (subscriptTail _ _ (Value.ref _) (Value.int _ _)) _ _ _); k_dflt (refine' kda_item (knd := PySem.intKind _ _) ?zzN ?zzm ?zzd ?zzk ?zzv ?_ ?zzhs ?zzhg; (case zzN => k_asm); (case zzm => k_mem); (case zzd => assumption); (case zzk => exact intKind_is _ _ _ _); (case zzv => assumption); (case zzhs => with_unfolding_all rfl); (case zzhg => (intro _; with_unfolding_all rfl)); k_whole))) | ((with_reducible show wpAny _ _ (PySem.setItem (Value.ref _) (Value.int _ _) _) _ _ _); (k_dflt (refine' kda_set (knd := PySem.intKind _ _) ?zzF ?zzN ?zzU ?zzd (intKind_is _ _ _ _) ?zzz ?_; (case zzF => k_asm); (case zzN => k_asm); (case zzU => k_updF); (case zzd => assumption); (case zzz => rw [sizeLine_eq]; omega)); intro h' o' F' N' hd'; (try dsimp only at N'))) | (((with_reducible show wpAny _ _ (call (Value.ref 126) _) _ _ _); k_dflt (refine' Ctr.use ?zzk1 ?zzk2 ?zzk3 ?zzk4 ?zzk5 ?zzkK (came_c _ _ _ _ ?zzq0 _ _ _ _ _ _ _ _ ?zzq1 ?zza0 ?zza1 ?zzb0 ?zzb1 _ _ _ _ _ _ _ _ ?zzq2 ?zzc0 ?zzc1 ?zzd0 ?zzd1) ?zzkd ?zzku ?_; (case zzk1 => k_asm); (case zzk2 => k_asm); (case zzk3 => k_asm); (case zzk4 => k_asm); (case zzk5 => k_asm); (case zzkK => first | exact rfl | assumption); (case zzq0 => assumption); (case zzq1 => k_mem); (case zzq2 => k_mem); (case zza0 => assumption); (case zza1 => assumption); (case zzb0 => assumption); (case zzb1 => assumption); (case zzc0 => assumption); (case zzc1 => assumption); (case zzd0 => assumption); (case zzd1 => assumption); (case zzkd => ktr_room); (case zzku => ktr_units)); intro r9 n9 h9 tk9 F9 N9 e9; obtain ⟨e8, e7⟩ := e9; subst e7; subst e8; (try dsimp only); (try k_fold); (try k_sweep); walk_say "CALL 126")) | ((with_reducible show wpAny _ _ (PySem.setItem (Value.ref _) (Value.int _ _) _) _ _ _); (k_dflt (refine' list_set ?zzF ?zzN ?zzU ?zzh0 ?zzh1 ?zzh2 ?_; (case zzF => k_asm); (case zzN => k_asm); (case zzU => k_upd); (case zzh0 => omega); (case zzh1 => omega); (case zzh2 => omega)); intro h' F' N'; (try dsimp only at N'))) | (((with_reducible show wpAny _ _ (subscriptTail _ _ (Value.ref _) (Value.int _ _)) _ _ _); k_dflt (refine' list_at ?zzN ?zzm ?zzh0 ?zzh1 ?zze ?_ ?zzhs ?zzhg; (case zzN => k_asm); (case zzm => k_mem); (case zze => assumption); (case zzh0 => omega); (case zzh1 => omega); (case zzhs => with_unfolding_all rfl); (case zzhg => (intro _; with_unfolding_all rfl)); k_whole))) | ((with_reducible show wpAny _ _ (PySem.callWith _ (Value.ref _) _ _ _) _ _ _); (k_dflt (refine' callWith_F ?zzk1 ?_; (case zzk1 => exact FnAt.of (by k_asm) (by k_mem)); k_whole))) | ((with_reducible show wpAny _ _ (PySem.getAttr (Value.ref _) _ _) _ _ _); (k_dflt (refine' get_own ?zzk1 ?zzk2 ?zzk3 ?zzk4 ?zzk5 ?zzk6 ?zzk7 ?zzk8 ?zzk9 ?_; (case zzk1 => k_asm); (case zzk2 => k_asm); (case zzk3 => k_inst); (case zzk4 => k_is); (case zzk5 => k_is); (case zzk6 => k_is); (case zzk7 => k_is); (case zzk8 => first | assumption | k_get); (case zzk9 => k_handed); k_whole))) | (((with_reducible show wpAny _ _ (call (Value.builtin "len") [Value.ref _]) _ _ _); k_dflt (refine' len_M ?zzN ?zzm ?zzf ?_; (case zzN => k_asm); (case zzm => k_mem); (case zzf => omega); k_whole))) | ((with_reducible show wpAny _ _ (PySem.execs (_ :: _) _) _ _ _); ((with_reducible refine wpAny_execs_cons ?_); (try dsimp only); (try k_fold))) | walk1 | (dsimp only; (first | (((with_reducible show wpAny _ _ (subscriptTail _ _ (Value.ref _) (Value.int _ _)) _ _ _); k_dflt (refine' kda_item (knd := PySem.intKind _ _) ?zzN ?zzm ?zzd ?zzk ?zzv ?_ ?zzhs ?zzhg; (case zzN => k_asm); (case zzm => k_mem); (case zzd => assumption); (case zzk => exact intKind_is _ _ _ _); (case zzv => assumption); (case zzhs => with_unfolding_all rfl); (case zzhg => (intro _; with_unfolding_all rfl)); k_whole))) | ((with_reducible show wpAny _ _ (PySem.setItem (Value.ref _) (Value.int _ _) _) _ _ _); (k_dflt (refine' kda_set (knd := PySem.intKind _ _) ?zzF ?zzN ?zzU ?zzd (intKind_is _ _ _ _) ?zzz ?_; (case zzF => k_asm); (case zzN => k_asm); (case zzU => k_updF); (case zzd => assumption); (case zzz => rw [sizeLine_eq]; omega)); intro h' o' F' N' hd'; (try dsimp only at N'))) | (((with_reducible show wpAny _ _ (call (Value.ref 126) _) _ _ _); k_dflt (refine' Ctr.use ?zzk1 ?zzk2 ?zzk3 ?zzk4 ?zzk5 ?zzkK (came_c _ _ _ _ ?zzq0 _ _ _ _ _ _ _ _ ?zzq1 ?zza0 ?zza1 ?zzb0 ?zzb1 _ _ _ _ _ _ _ _ ?zzq2 ?zzc0 ?zzc1 ?zzd0 ?zzd1) ?zzkd ?zzku ?_; (case zzk1 => k_asm); (case zzk2 => k_asm); (case zzk3 => k_asm); (case zzk4 => k_asm); (case zzk5 => k_asm); (case zzkK => first | exact rfl | assumption); (case zzq0 => assumption); (case zzq1 => k_mem); (case zzq2 => k_mem); (case zza0 => assumption); (case zza1 => assumption); (case zzb0 => assumption); (case zzb1 => assumption); (case zzc0 => assumption); (case zzc1 => assumption); (case zzd0 => assumption); (case zzd1 => assumption); (case zzkd => ktr_room); (case zzku => ktr_units)); intro r9 n9 h9 tk9 F9 N9 e9; obtain ⟨e8, e7⟩ := e9; subst e7; subst e8; (try dsimp only); (try k_fold); (try k_sweep); walk_say "CALL 126")) | ((with_reducible show wpAny _ _ (PySem.setItem (Value.ref _) (Value.int _ _) _) _ _ _); (k_dflt (refine' list_set ?zzF ?zzN ?zzU ?zzh0 ?zzh1 ?zzh2 ?_; (case zzF => k_asm); (case zzN => k_asm); (case zzU => k_upd); (case zzh0 => omega); (case zzh1 => omega); (case zzh2 => omega)); intro h' F' N'; (try dsimp only at N'))) | (((with_reducible show wpAny _ _ (subscriptTail _ _ (Value.ref _) (Value.int _ _)) _ _ _); k_dflt (refine' list_at ?zzN ?zzm ?zzh0 ?zzh1 ?zze ?_ ?zzhs ?zzhg; (case zzN => k_asm); (case zzm => k_mem); (case zze => assumption); (case zzh0 => omega); (case zzh1 => omega); (case zzhs => with_unfolding_all rfl); (case zzhg => (intro _; with_unfolding_all rfl)); k_whole))) | ((with_reducible show wpAny _ _ (PySem.callWith _ (Value.ref _) _ _ _) _ _ _); (k_dflt (refine' callWith_F ?zzk1 ?_; (case zzk1 => exact FnAt.of (by k_asm) (by k_mem)); k_whole))) | ((with_reducible show wpAny _ _ (PySem.getAttr (Value.ref _) _ _) _ _ _); (k_dflt (refine' get_own ?zzk1 ?zzk2 ?zzk3 ?zzk4 ?zzk5 ?zzk6 ?zzk7 ?zzk8 ?zzk9 ?_; (case zzk1 => k_asm); (case zzk2 => k_asm); (case zzk3 => k_inst); (case zzk4 => k_is); (case zzk5 => k_is); (case zzk6 => k_is); (case zzk7 => k_is); (case zzk8 => first | assumption | k_get); (case zzk9 => k_handed); k_whole))) | (((with_reducible show wpAny _ _ (call (Value.builtin "len") [Value.ref _]) _ _ _); k_dflt (refine' len_M ?zzN ?zzm ?zzf ?_; (case zzN => k_asm); (case zzm => k_mem); (case zzf => omega); k_whole))) | ((with_reducible show wpAny _ _ (PySem.execs (_ :: _) _) _ _ _); ((with_reducible refine wpAny_execs_cons ?_); (try dsimp only); (try k_fold))) | walk1)) | (leave1; walk_say "STEP leave1"; try dsimp only)))
          (rename Fr _ _ _ _ => lF)
          (rename News _ _ _ _ => lN)
          refine iter_dictS (o := ro) (kvs := kvr) ["key"] (RowJ w nk P hl rest ((la, listOf (evs.map (lastV kvs1)).toArray n3) :: (lb, listOf (evs.map (lastV kvs1)).toArray n4) :: r5) kvs1.length) (by rfl) rlo lF lN ?hm2 hdr (.mk ho1 kvs1 hv1 hd1 (by omega) hheld1 hP1) ?keep2 ?turn2 ?done2
          case hm2 => simp only [List.mem_cons, hro5, or_true]
          case keep2 =>
            rintro j nx ⟨⟩
            simp only [List.mem_cons, hro5, or_true]
          case turn2 =>
            intro j k tk0 y u2 nx h8 tk8 own2 hkj hown2 hJ1 F8 N8
            cases hJ1 with | mk ho2 kvs2 hv2 hd2 hk2 hheld2 hP2 => ?_
            have hj8 : j < kvr.length := (List.getElem?_eq_some_iff.mp hkj).1
            obtain ⟨kk0, kk1, tt, hyt, hPt⟩ := hrv k y (List.mem_of_getElem? hkj)
            have hvy := valueAt_of_get (dict_nodup hdr) hkj
            simp only [List.cons_append] at N8
            obtain ⟨r6, hr6⟩ : ∃ r6, r6 = r5 ++ own2 := ⟨_, rfl⟩
            rw [← hr6] at N8
            have s6 : ∀ p ∈ r5, p ∈ r6 := fun p hp => by rw [hr6]; exact List.mem_append.mpr (.inl hp)
            have off6 : OwnOff r6 [hl, la, lb] := by
              intro p hp b hb
              rw [hr6] at hp
              rcases List.mem_append.mp hp with h | h
              · exact off5 p h b hb
              · refine hown2 p h b ?_
                simp only [List.mem_cons, List.mem_nil_iff, or_false] at hb
                simp only [List.map_cons, List.mem_cons]
                rcases hb with h | h | h <;> simp only [h, true_or, or_true]
            replace hro5 := s6 _ hro5
            replace q5 := s6 _ q5
            replace q6 := s6 _ q6
            repeat' (first | (k_unfold; (try dsimp only)) | (k_end; wrow_close) | (((with_reducible show wpAny _ _ (subscriptTail _ _ (Value.ref _) (Value.int _ _)) _ _ _); k_dflt (refine' kda_item (knd := PySem.intKind _ _) ?zzN ?zzm ?zzd ?zzk ?zzv ?_ ?zzhs ?zzhg; (case zzN => k_asm); (case zzm => k_mem); (case zzd => assumption); (case zzk => exact intKind_is _ _ _ _); (case zzv => assumption); (case zzhs => with_unfolding_all rfl); (case zzhg => (intro _; with_unfolding_all rfl)); k_whole))) | ((with_reducible show wpAny _ _ (PySem.setItem (Value.ref _) (Value.int _ _) _) _ _ _); (k_dflt (refine' kda_set (knd := PySem.intKind _ _) ?zzF ?zzN ?zzU ?zzd (intKind_is _ _ _ _) ?zzz ?_; (case zzF => k_asm); (case zzN => k_asm); (case zzU => k_updF); (case zzd => assumption); (case zzz => rw [sizeLine_eq]; omega)); intro h' o' F' N' hd'; (try dsimp only at N'))) | (((with_reducible show wpAny _ _ (call (Value.ref 126) _) _ _ _); k_dflt (refine' Ctr.use ?zzk1 ?zzk2 ?zzk3 ?zzk4 ?zzk5 ?zzkK (came_c _ _ _ _ ?zzq0 _ _ _ _ _ _ _ _ ?zzq1 ?zza0 ?zza1 ?zzb0 ?zzb1 _ _ _ _ _ _ _ _ ?zzq2 ?zzc0 ?zzc1 ?zzd0 ?zzd1) ?zzkd ?zzku ?_; (case zzk1 => k_asm); (case zzk2 => k_asm); (case zzk3 => k_asm); (case zzk4 => k_asm); (case zzk5 => k_asm); (case zzkK => first | exact rfl | assumption); (case zzq0 => assumption); (case zzq1 => k_mem); (case zzq2 => k_mem); (case zza0 => assumption); (case zza1 => assumption); (case zzb0 => assumption); (case zzb1 => assumption); (case zzc0 => assumption); (case zzc1 => assumption); (case zzd0 => assumption); (case zzd1 => assumption); (case zzkd => ktr_room); (case zzku => ktr_units)); intro r9 n9 h9 tk9 F9 N9 e9; obtain ⟨e8, e7⟩ := e9; subst e7; subst e8; (try dsimp only); (try k_fold); (try k_sweep); walk_say "CALL 126")) | ((with_reducible show wpAny _ _ (PySem.setItem (Value.ref _) (Value.int _ _) _) _ _ _); (k_dflt (refine' list_set ?zzF ?zzN ?zzU ?zzh0 ?zzh1 ?zzh2 ?_; (case zzF => k_asm); (case zzN => k_asm); (case zzU => k_upd); (case zzh0 => omega); (case zzh1 => omega); (case zzh2 => omega)); intro h' F' N'; (try dsimp only at N'))) | (((with_reducible show wpAny _ _ (subscriptTail _ _ (Value.ref _) (Value.int _ _)) _ _ _); k_dflt (refine' list_at ?zzN ?zzm ?zzh0 ?zzh1 ?zze ?_ ?zzhs ?zzhg; (case zzN => k_asm); (case zzm => k_mem); (case zze => assumption); (case zzh0 => omega); (case zzh1 => omega); (case zzhs => with_unfolding_all rfl); (case zzhg => (intro _; with_unfolding_all rfl)); k_whole))) | ((with_reducible show wpAny _ _ (PySem.callWith _ (Value.ref _) _ _ _) _ _ _); (k_dflt (refine' callWith_F ?zzk1 ?_; (case zzk1 => exact FnAt.of (by k_asm) (by k_mem)); k_whole))) | ((with_reducible show wpAny _ _ (PySem.getAttr (Value.ref _) _ _) _ _ _); (k_dflt (refine' get_own ?zzk1 ?zzk2 ?zzk3 ?zzk4 ?zzk5 ?zzk6 ?zzk7 ?zzk8 ?zzk9 ?_; (case zzk1 => k_asm); (case zzk2 => k_asm); (case zzk3 => k_inst); (case zzk4 => k_is); (case zzk5 => k_is); (case zzk6 => k_is); (case zzk7 => k_is); (case zzk8 => first | assumption | k_get); (case zzk9 => k_handed); k_whole))) | (((with_reducible show wpAny _ _ (call (Value.builtin "len") [Value.ref _]) _ _ _); k_dflt (refine' len_M ?zzN ?zzm ?zzf ?_; (case zzN => k_asm); (case zzm => k_mem); (case zzf => omega); k_whole))) | ((with_reducible show wpAny _ _ (PySem.execs (_ :: _) _) _ _ _); ((with_reducible refine wpAny_execs_cons ?_); (try dsimp only); (try k_fold))) | walk1 | (dsimp only; (first | (((with_reducible show wpAny _ _ (subscriptTail _ _ (Value.ref _) (Value.int _ _)) _ _ _); k_dflt (refine' kda_item (knd := PySem.intKind _ _) ?zzN ?zzm ?zzd ?zzk ?zzv ?_ ?zzhs ?zzhg; (case zzN => k_asm); (case zzm => k_mem); (case zzd => assumption); (case zzk => exact intKind_is _ _ _ _); (case zzv => assumption); (case zzhs => with_unfolding_all rfl); (case zzhg => (intro _; with_unfolding_all rfl)); k_whole))) | ((with_reducible show wpAny _ _ (PySem.setItem (Value.ref _) (Value.int _ _) _) _ _ _); (k_dflt (refine' kda_set (knd := PySem.intKind _ _) ?zzF ?zzN ?zzU ?zzd (intKind_is _ _ _ _) ?zzz ?_; (case zzF => k_asm); (case zzN => k_asm); (case zzU => k_updF); (case zzd => assumption); (case zzz => rw [sizeLine_eq]; omega)); intro h' o' F' N' hd'; (try dsimp only at N'))) | (((with_reducible show wpAny _ _ (call (Value.ref 126) _) _ _ _); k_dflt (refine' Ctr.use ?zzk1 ?zzk2 ?zzk3 ?zzk4 ?zzk5 ?zzkK (came_c _ _ _ _ ?zzq0 _ _ _ _ _ _ _ _ ?zzq1 ?zza0 ?zza1 ?zzb0 ?zzb1 _ _ _ _ _ _ _ _ ?zzq2 ?zzc0 ?zzc1 ?zzd0 ?zzd1) ?zzkd ?zzku ?_; (case zzk1 => k_asm); (case zzk2 => k_asm); (case zzk3 => k_asm); (case zzk4 => k_asm); (case zzk5 => k_asm); (case zzkK => first | exact rfl | assumption); (case zzq0 => assumption); (case zzq1 => k_mem); (case zzq2 => k_mem); (case zza0 => assumption); (case zza1 => assumption); (case zzb0 => assumption); (case zzb1 => assumption); (case zzc0 => assumption); (case zzc1 => assumption); (case zzd0 => assumption); (case zzd1 => assumption); (case zzkd => ktr_room); (case zzku => ktr_units)); intro r9 n9 h9 tk9 F9 N9 e9; obtain ⟨e8, e7⟩ := e9; subst e7; subst e8; (try dsimp only); (try k_fold); (try k_sweep); walk_say "CALL 126")) | ((with_reducible show wpAny _ _ (PySem.setItem (Value.ref _) (Value.int _ _) _) _ _ _); (k_dflt (refine' list_set ?zzF ?zzN ?zzU ?zzh0 ?zzh1 ?zzh2 ?_; (case zzF => k_asm); (case zzN => k_asm); (case zzU => k_upd); (case zzh0 => omega); (case zzh1 => omega); (case zzh2 => omega)); intro h' F' N'; (try dsimp only at N'))) | (((with_reducible show wpAny _ _ (subscriptTail _ _ (Value.ref _) (Value.int _ _)) _ _ _); k_dflt (refine' list_at ?zzN ?zzm ?zzh0 ?zzh1 ?zze ?_ ?zzhs ?zzhg; (case zzN => k_asm); (case zzm => k_mem); (case zze => assumption); (case zzh0 => omega); (case zzh1 => omega); (case zzhs => with_unfolding_all rfl); (case zzhg => (intro _; with_unfolding_all rfl)); k_whole))) | ((with_reducible show wpAny _ _ (PySem.callWith _ (Value.ref _) _ _ _) _ _ _); (k_dflt (refine' callWith_F ?zzk1 ?_; (case zzk1 => exact FnAt.of (by k_asm) (by k_mem)); k_whole))) | ((with_reducible show wpAny _ _ (PySem.getAttr (Value.ref _) _ _) _ _ _); (k_dflt (refine' get_own ?zzk1 ?zzk2 ?zzk3 ?zzk4 ?zzk5 ?zzk6 ?zzk7 ?zzk8 ?zzk9 ?_; (case zzk1 => k_asm); (case zzk2 => k_asm); (case zzk3 => k_inst); (case zzk4 => k_is); (case zzk5 => k_is); (case zzk6 => k_is); (case zzk7 => k_is); (case zzk8 => first | assumption | k_get); (case zzk9 => k_handed); k_whole))) | (((with_reducible show wpAny _ _ (call (Value.builtin "len") [Value.ref _]) _ _ _); k_dflt (refine' len_M ?zzN ?zzm ?zzf ?_; (case zzN => k_asm); (case zzm => k_mem); (case zzf => omega); k_whole))) | ((with_reducible show wpAny _ _ (PySem.execs (_ :: _) _) _ _ _); ((with_reducible refine wpAny_execs_cons ?_); (try dsimp only); (try k_fold))) | walk1)) | (leave1; walk_say "STEP leave1"; try dsimp only) | fail "no step")
            (rename News _ _ _ _ => lN9)
            refine' row_fin (by k_asm) lN9 ?_ (by assumption) hk2 hheld2 hP2 hyt hPt hown2 ?_ (fun p hp => hp)
            · intro z hz
              simp at hz
              simp [hz]
            · rw [hr6]; rfl
          case done2 =>
            intro u2 nx h8 tk8 hJ1 F8 N8
            cases hJ1 with | mk ho2 kvs2 hv2 hd2 hk2 hheld2 hP2 => ?_
            dsimp only
            repeat' ((fail_if_success (with_reducible show wpAny _ _ (PySem.exec (PySem.Stmt.For _ _ _ _ _) _) _ _ _)); (first | (k_unfold; (try dsimp only)) | (k_end; wrow_close) | (((with_reducible show wpAny _ _ (subscriptTail _ _ (Value.ref _) (Value.int _ _)) _ _ _); k_dflt (refine' kda_item (knd := PySem.intKind _ _) ?zzN ?zzm ?zzd ?zzk ?zzv ?_ ?zzhs ?zzhg; (case zzN => k_asm); (case zzm => k_mem); (case zzd => assumption); (case zzk => exact intKind_is _ _ _ _); (case zzv => assumption); (case zzhs => with_unfolding_all rfl); (case zzhg => (intro _; with_unfolding_all rfl)); k_whole))) | ((with_reducible show wpAny _ _ (PySem.setItem (Value.ref _) (Value.int _ _) _) _ _ _); (k_dflt (refine' kda_set (knd := PySem.intKind _ _) ?zzF ?zzN ?zzU ?zzd (intKind_is _ _ _ _) ?zzz ?_; (case zzF => k_asm); (case zzN => k_asm); (case zzU => k_updF); (case zzd => assumption); (case zzz => rw [sizeLine_eq]; omega)); intro h' o' F' N' hd'; (try dsimp only at N'))) | (((with_reducible show wpAny _ _ (call (Value.ref 126) _) _ _ _); k_dflt (refine' Ctr.use ?zzk1 ?zzk2 ?zzk3 ?zzk4 ?zzk5 ?zzkK (came_c _ _ _ _ ?zzq0 _ _ _ _ _ _ _ _ ?zzq1 ?zza0 ?zza1 ?zzb0 ?zzb1 _ _ _ _ _ _ _ _ ?zzq2 ?zzc0 ?zzc1 ?zzd0 ?zzd1) ?zzkd ?zzku ?_; (case zzk1 => k_asm); (case zzk2 => k_asm); (case zzk3 => k_asm); (case zzk4 => k_asm); (case zzk5 => k_asm); (case zzkK => first | exact rfl | assumption); (case zzq0 => assumption); (case zzq1 => k_mem); (case zzq2 => k_mem); (case zza0 => assumption); (case zza1 => assumption); (case zzb0 => assumption); (case zzb1 => assumption); (case zzc0 => assumption); (case zzc1 => assumption); (case zzd0 => assumption); (case zzd1 => assumption); (case zzkd => ktr_room); (case zzku => ktr_units)); intro r9 n9 h9 tk9 F9 N9 e9; obtain ⟨e8, e7⟩ := e9; subst e7; subst e8; (try dsimp only); (try k_fold); (try k_sweep); walk_say "CALL 126")) | ((with_reducible show wpAny _ _ (PySem.setItem (Value.ref _) (Value.int _ _) _) _ _ _); (k_dflt (refine' list_set ?zzF ?zzN ?zzU ?zzh0 ?zzh1 ?zzh2 ?_; (case zzF => k_asm); (case zzN => k_asm); (case zzU => k_upd); (case zzh0 => omega); (case zzh1 => omega); (case zzh2 => omega)); intro h' F' N'; (try dsimp only at N'))) | (((with_reducible show wpAny _ _ (subscriptTail _ _ (Value.ref _) (Value.int _ _)) _ _ _); k_dflt (refine' list_at ?zzN ?zzm ?zzh0 ?zzh1 ?zze ?_ ?zzhs ?zzhg; (case zzN => k_asm); (case zzm => k_mem); (case zze => assumption); (case zzh0 => omega); (case zzh1 => omega); (case zzhs => with_unfolding_all rfl); (case zzhg => (intro _; with_unfolding_all rfl)); k_whole))) | ((with_reducible show wpAny _ _ (PySem.callWith _ (Value.ref _) _ _ _) _ _ _); (k_dflt (refine' callWith_F ?zzk1 ?_; (case zzk1 => exact FnAt.of (by k_asm) (by k_mem)); k_whole))) | ((with_reducible show wpAny _ _ (PySem.getAttr (Value.ref _) _ _) _ _ _); (k_dflt (refine' get_own ?zzk1 ?zzk2 ?zzk3 ?zzk4 ?zzk5 ?zzk6 ?zzk7 ?zzk8 ?zzk9 ?_; (case zzk1 => k_asm); (case zzk2 => k_asm); (case zzk3 => k_inst); (case zzk4 => k_is); (case zzk5 => k_is); (case zzk6 => k_is); (case zzk7 => k_is); (case zzk8 => first | assumption | k_get); (case zzk9 => k_handed); k_whole))) | (((with_reducible show wpAny _ _ (call (Value.builtin "len") [Value.ref _]) _ _ _); k_dflt (refine' len_M ?zzN ?zzm ?zzf ?_; (case zzN => k_asm); (case zzm => k_mem); (case zzf => omega); k_whole))) | ((with_reducible show wpAny _ _ (PySem.execs (_ :: _) _) _ _ _); ((with_reducible refine wpAny_execs_cons ?_); (try dsimp only); (try k_fold))) | walk1 | (dsimp only; (first | (((with_reducible show wpAny _ _ (subscriptTail _ _ (Value.ref _) (Value.int _ _)) _ _ _); k_dflt (refine' kda_item (knd := PySem.intKind _ _) ?zzN ?zzm ?zzd ?zzk ?zzv ?_ ?zzhs ?zzhg; (case zzN => k_asm); (case zzm => k_mem); (case zzd => assumption); (case zzk => exact intKind_is _ _ _ _); (case zzv => assumption); (case zzhs => with_unfolding_all rfl); (case zzhg => (intro _; with_unfolding_all rfl)); k_whole))) | ((with_reducible show wpAny _ _ (PySem.setItem (Value.ref _) (Value.int _ _) _) _ _ _); (k_dflt (refine' kda_set (knd := PySem.intKind _ _) ?zzF ?zzN ?zzU ?zzd (intKind_is _ _ _ _) ?zzz ?_; (case zzF => k_asm); (case zzN => k_asm); (case zzU => k_updF); (case zzd => assumption); (case zzz => rw [sizeLine_eq]; omega)); intro h' o' F' N' hd'; (try dsimp only at N'))) | (((with_reducible show wpAny _ _ (call (Value.ref 126) _) _ _ _); k_dflt (refine' Ctr.use ?zzk1 ?zzk2 ?zzk3 ?zzk4 ?zzk5 ?zzkK (came_c _ _ _ _ ?zzq0 _ _ _ _ _ _ _ _ ?zzq1 ?zza0 ?zza1 ?zzb0 ?zzb1 _ _ _ _ _ _ _ _ ?zzq2 ?zzc0 ?zzc1 ?zzd0 ?zzd1) ?zzkd ?zzku ?_; (case zzk1 => k_asm); (case zzk2 => k_asm); (case zzk3 => k_asm); (case zzk4 => k_asm); (case zzk5 => k_asm); (case zzkK => first | exact rfl | assumption); (case zzq0 => assumption); (case zzq1 => k_mem); (case zzq2 => k_mem); (case zza0 => assumption); (case zza1 => assumption); (case zzb0 => assumption); (case zzb1 => assumption); (case zzc0 => assumption); (case zzc1 => assumption); (case zzd0 => assumption); (case zzd1 => assumption); (case zzkd => ktr_room); (case zzku => ktr_units)); intro r9 n9 h9 tk9 F9 N9 e9; obtain ⟨e8, e7⟩ := e9; subst e7; subst e8; (try dsimp only); (try k_fold); (try k_sweep); walk_say "CALL 126")) | ((with_reducible show wpAny _ _ (PySem.setItem (Value.ref _) (Value.int _ _) _) _ _ _); (k_dflt (refine' list_set ?zzF ?zzN ?zzU ?zzh0 ?zzh1 ?zzh2 ?_; (case zzF => k_asm); (case zzN => k_asm); (case zzU => k_upd); (case zzh0 => omega); (case zzh1 => omega); (case zzh2 => omega)); intro h' F' N'; (try dsimp only at N'))) | (((with_reducible show wpAny _ _ (subscriptTail _ _ (Value.ref _) (Value.int _ _)) _ _ _); k_dflt (refine' list_at ?zzN ?zzm ?zzh0 ?zzh1 ?zze ?_ ?zzhs ?zzhg; (case zzN => k_asm); (case zzm => k_mem); (case zze => assumption); (case zzh0 => omega); (case zzh1 => omega); (case zzhs => with_unfolding_all rfl); (case zzhg => (intro _; with_unfolding_all rfl)); k_whole))) | ((with_reducible show wpAny _ _ (PySem.callWith _ (Value.ref _) _ _ _) _ _ _); (k_dflt (refine' callWith_F ?zzk1 ?_; (case zzk1 => exact FnAt.of (by k_asm) (by k_mem)); k_whole))) | ((with_reducible show wpAny _ _ (PySem.getAttr (Value.ref _) _ _) _ _ _); (k_dflt (refine' get_own ?zzk1 ?zzk2 ?zzk3 ?zzk4 ?zzk5 ?zzk6 ?zzk7 ?zzk8 ?zzk9 ?_; (case zzk1 => k_asm); (case zzk2 => k_asm); (case zzk3 => k_inst); (case zzk4 => k_is); (case zzk5 => k_is); (case zzk6 => k_is); (case zzk7 => k_is); (case zzk8 => first | assumption | k_get); (case zzk9 => k_handed); k_whole))) | (((with_reducible show wpAny _ _ (call (Value.builtin "len") [Value.ref _]) _ _ _); k_dflt (refine' len_M ?zzN ?zzm ?zzf ?_; (case zzN => k_asm); (case zzm => k_mem); (case zzf => omega); k_whole))) | ((with_reducible show wpAny _ _ (PySem.execs (_ :: _) _) _ _ _); ((with_reducible refine wpAny_execs_cons ?_); (try dsimp only); (try k_fold))) | walk1)) | (leave1; walk_say "STEP leave1"; try dsimp only)))
            (rename Fr _ _ _ _ => lF)
            refine' For_invVF lF ?kf1 ?kf2 ?_
            case kf1 => exact rfl
            case kf2 => exact rfl
            repeat' ((fail_if_success (with_reducible show wpAny _ _ (PySem.pyIter (Value.ref _)) _ _ _)); (first | (k_unfold; (try dsimp only)) | (k_end; wrow_close) | (((with_reducible show wpAny _ _ (subscriptTail _ _ (Value.ref _) (Value.int _ _)) _ _ _); k_dflt (refine' kda_item (knd := PySem.intKind _ _) ?zzN ?zzm ?zzd ?zzk ?zzv ?_ ?zzhs ?zzhg; (case zzN => k_asm); (case zzm => k_mem); (case zzd => assumption); (case zzk => exact intKind_is _ _ _ _); (case zzv => assumption); (case zzhs => with_unfolding_all rfl); (case zzhg => (intro _; with_unfolding_all rfl)); k_whole))) | ((with_reducible show wpAny _ _ (PySem.setItem (Value.ref _) (Value.int _ _) _) _ _ _); (k_dflt (refine' kda_set (knd := PySem.intKind _ _) ?zzF ?zzN ?zzU ?zzd (intKind_is _ _ _ _) ?zzz ?_; (case zzF => k_asm); (case zzN => k_asm); (case zzU => k_updF); (case zzd => assumption); (case zzz => rw [sizeLine_eq]; omega)); intro h' o' F' N' hd'; (try dsimp only at N'))) | (((with_reducible show wpAny _ _ (call (Value.ref 126) _) _ _ _); k_dflt (refine' Ctr.use ?zzk1 ?zzk2 ?zzk3 ?zzk4 ?zzk5 ?zzkK (came_c _ _ _ _ ?zzq0 _ _ _ _ _ _ _ _ ?zzq1 ?zza0 ?zza1 ?zzb0 ?zzb1 _ _ _ _ _ _ _ _ ?zzq2 ?zzc0 ?zzc1 ?zzd0 ?zzd1) ?zzkd ?zzku ?_; (case zzk1 => k_asm); (case zzk2 => k_asm); (case zzk3 => k_asm); (case zzk4 => k_asm); (case zzk5 => k_asm); (case zzkK => first | exact rfl | assumption); (case zzq0 => assumption); (case zzq1 => k_mem); (case zzq2 => k_mem); (case zza0 => assumption); (case zza1 => assumption); (case zzb0 => assumption); (case zzb1 => assumption); (case zzc0 => assumption); (case zzc1 => assumption); (case zzd0 => assumption); (case zzd1 => assumption); (case zzkd => ktr_room); (case zzku => ktr_units)); intro r9 n9 h9 tk9 F9 N9 e9; obtain ⟨e8, e7⟩ := e9; subst e7; subst e8; (try dsimp only); (try k_fold); (try k_sweep); walk_say "CALL 126")) | ((with_reducible show wpAny _ _ (PySem.setItem (Value.ref _) (Value.int _ _) _) _ _ _); (k_dflt (refine' list_set ?zzF ?zzN ?zzU ?zzh0 ?zzh1 ?zzh2 ?_; (case zzF => k_asm); (case zzN => k_asm); (case zzU => k_upd); (case zzh0 => omega); (case zzh1 => omega); (case zzh2 => omega)); intro h' F' N'; (try dsimp only at N'))) | (((with_reducible show wpAny _ _ (subscriptTail _ _ (Value.ref _) (Value.int _ _)) _ _ _); k_dflt (refine' list_at ?zzN ?zzm ?zzh0 ?zzh1 ?zze ?_ ?zzhs ?zzhg; (case zzN => k_asm); (case zzm => k_mem); (case zze => assumption); (case zzh0 => omega); (case zzh1 => omega); (case zzhs => with_unfolding_all rfl); (case zzhg => (intro _; with_unfolding_all rfl)); k_whole))) | ((with_reducible show wpAny _ _ (PySem.callWith _ (Value.ref _) _ _ _) _ _ _); (k_dflt (refine' callWith_F ?zzk1 ?_; (case zzk1 => exact FnAt.of (by k_asm) (by k_mem)); k_whole))) | ((with_reducible show wpAny _ _ (PySem.getAttr (Value.ref _) _ _) _ _ _); (k_dflt (refine' get_own ?zzk1 ?zzk2 ?zzk3 ?zzk4 ?zzk5 ?zzk6 ?zzk7 ?zzk8 ?zzk9 ?_; (case zzk1 => k_asm); (case zzk2 => k_asm); (case zzk3 => k_inst); (case zzk4 => k_is); (case zzk5 => k_is); (case zzk6 => k_is); (case zzk7 => k_is); (case zzk8 => first | assumption | k_get); (case zzk9 => k_handed); k_whole))) | (((with_reducible show wpAny _ _ (call (Value.builtin "len") [Value.ref _]) _ _ _); k_dflt (refine' len_M ?zzN ?zzm ?zzf ?_; (case zzN => k_asm); (case zzm => k_mem); (case zzf => omega); k_whole))) | ((with_reducible show wpAny _ _ (PySem.execs (_ :: _) _) _ _ _); ((with_reducible refine wpAny_execs_cons ?_); (try dsimp only); (try k_fold))) | walk1 | (dsimp only; (first | (((with_reducible show wpAny _ _ (subscriptTail _ _ (Value.ref _) (Value.int _ _)) _ _ _); k_dflt (refine' kda_item (knd := PySem.intKind _ _) ?zzN ?zzm ?zzd ?zzk ?zzv ?_ ?zzhs ?zzhg; (case zzN => k_asm); (case zzm => k_mem); (case zzd => assumption); (case zzk => exact intKind_is _ _ _ _); (case zzv => assumption); (case zzhs => with_unfolding_all rfl); (case zzhg => (intro _; with_unfolding_all rfl)); k_whole))) | ((with_reducible show wpAny _ _ (PySem.setItem (Value.ref _) (Value.int _ _) _) _ _ _); (k_dflt (refine' kda_set (knd := PySem.intKind _ _) ?zzF ?zzN ?zzU ?zzd (intKind_is _ _ _ _) ?zzz ?_; (case zzF => k_asm); (case zzN => k_asm); (case zzU => k_updF); (case zzd => assumption); (case zzz => rw [sizeLine_eq]; omega)); intro h' o' F' N' hd'; (try dsimp only at N'))) | (((with_reducible show wpAny _ _ (call (Value.ref 126) _) _ _ _); k_dflt (refine' Ctr.use ?zzk1 ?zzk2 ?zzk3 ?zzk4 ?zzk5 ?zzkK (came_c _ _ _ _ ?zzq0 _ _ _ _ _ _ _ _ ?zzq1 ?zza0 ?zza1 ?zzb0 ?zzb1 _ _ _ _ _ _ _ _ ?zzq2 ?zzc0 ?zzc1 ?zzd0 ?zzd1) ?zzkd ?zzku ?_; (case zzk1 => k_asm); (case zzk2 => k_asm); (case zzk3 => k_asm); (case zzk4 => k_asm); (case zzk5 => k_asm); (case zzkK => first | exact rfl | assumption); (case zzq0 => assumption); (case zzq1 => k_mem); (case zzq2 => k_mem); (case zza0 => assumption); (case zza1 => assumption); (case zzb0 => assumption); (case zzb1 => assumption); (case zzc0 => assumption); (case zzc1 => assumption); (case zzd0 => assumption); (case zzd1 => assumption); (case zzkd => ktr_room); (case zzku => ktr_units)); intro r9 n9 h9 tk9 F9 N9 e9; obtain ⟨e8, e7⟩ := e9; subst e7; subst e8; (try dsimp only); (try k_fold); (try k_sweep); walk_say "CALL 126")) | ((with_reducible show wpAny _ _ (PySem.setItem (Value.ref _) (Value.int _ _) _) _ _ _); (k_dflt (refine' list_set ?zzF ?zzN ?zzU ?zzh0 ?zzh1 ?zzh2 ?_; (case zzF => k_asm); (case zzN => k_asm); (case zzU => k_upd); (case zzh0 => omega); (case zzh1 => omega); (case zzh2 => omega)); intro h' F' N'; (try dsimp only at N'))) | (((with_reducible show wpAny _ _ (subscriptTail _ _ (Value.ref _) (Value.int _ _)) _ _ _); k_dflt (refine' list_at ?zzN ?zzm ?zzh0 ?zzh1 ?zze ?_ ?zzhs ?zzhg; (case zzN => k_asm); (case zzm => k_mem); (case zze => assumption); (case zzh0 => omega); (case zzh1 => omega); (case zzhs => with_unfolding_all rfl); (case zzhg => (intro _; with_unfolding_all rfl)); k_whole))) | ((with_reducible show wpAny _ _ (PySem.callWith _ (Value.ref _) _ _ _) _ _ _); (k_dflt (refine' callWith_F ?zzk1 ?_; (case zzk1 => exact FnAt.of (by k_asm) (by k_mem)); k_whole))) | ((with_reducible show wpAny _ _ (PySem.getAttr (Value.ref _) _ _) _ _ _); (k_dflt (refine' get_own ?zzk1 ?zzk2 ?zzk3 ?zzk4 ?zzk5 ?zzk6 ?zzk7 ?zzk8 ?zzk9 ?_; (case zzk1 => k_asm); (case zzk2 => k_asm); (case zzk3 => k_inst); (case zzk4 => k_is); (case zzk5 => k_is); (case zzk6 => k_is); (case zzk7 => k_is); (case zzk8 => first | assumption | k_get); (case zzk9 => k_handed); k_whole))) | (((with_reducible show wpAny _ _ (call (Value.builtin "len") [Value.ref _]) _ _ _); k_dflt (refine' len_M ?zzN ?zzm ?zzf ?_; (case zzN => k_asm); (case zzm => k_mem); (case zzf => omega); k_whole))) | ((with_reducible show wpAny _ _ (PySem.execs (_ :: _) _) _ _ _); ((with_reducible refine wpAny_execs_cons ?_); (try dsimp only); (try k_fold))) | walk1)) | (leave1; walk_say "STEP leave1"; try dsimp only)))
            (rename Fr _ _ _ _ => lF)
            (rename News _ _ _ _ => lN)
            have hk8 : kvs2.length ≤ 100 := by omega
            refine iter_rangeH (n := vsE.length) ["at", "sort", "expr"] "due" (fun i => .bool (comeB (evs.take i) hv1 hv2)) (ComeJ evs kvs1 kvs2 lb ((hl, ho2) :: (la, listOf (evs.map (lastV kvs1)).toArray n3) :: r5)) (by rfl) (by assumption) ?small ?size lF (cb_drop lN ?sub3 : News _ _ _ ((lb, listOf (lastsAt evs kvs1 kvs2 0).toArray n4) :: (hl, ho2) :: (la, listOf (evs.map (lastV kvs1)).toArray n3) :: r5)) ⟨_, rfl⟩ rfl ?turn3 ?done3
            case small => exact small_one (by decide) (by decide) (by omega) (by omega)
            case size => exact rangeSize_nat _ _
            case sub3 =>
              intro p hp
              simp only [List.mem_cons] at hp ⊢
              rcases hp with h | h | h | h
              · exact .inr (.inr (.inl h))
              · exact .inl h
              · exact .inr (.inl h)
              · exact .inr (.inr (.inr h))
            case turn3 =>
              intro i3 t3 u3 nx h9 tk9 own3 hi3 hown3 ⟨n5, enx⟩ F9 N9
              subst enx
              obtain ⟨e, he⟩ : ∃ e, evs[i3]? = some e := ⟨evs[i3]'(by omega), List.getElem?_eq_getElem (by omega)⟩
              obtain ⟨ve, hvE⟩ : ∃ e, vsE[Int.toNat (i3 : Int)]? = some e := ⟨vsE[i3]'hi3, by rw [Int.toNat_natCast]; exact List.getElem?_eq_getElem hi3⟩
              obtain ⟨e', he', hDe⟩ := evs_get (hD0.mono p5) (by rw [Int.toNat_natCast] at hvE; exact hvE)
              rw [he] at he'
              cases he'
              obtain ⟨x9, y9, t1, t2, t4, t5, m3, m4, rfl, hx9, hy9⟩ := ev_open hDe
              have hEv := hok e (List.mem_of_getElem? he)
              have hgo : (lastsAt evs kvs1 kvs2 i3)[Int.toNat (i3 : Int)]? = some (lastV kvs1 e) := by rw [Int.toNat_natCast]; exact lastsAt_get kvs1 kvs2 he
              have hgl := lastsAt_len evs kvs1 kvs2 (i := i3) (by omega)
              simp only [List.cons_append] at N9
              obtain ⟨r7, hr7⟩ : ∃ r7, r7 = r5 ++ own3 := ⟨_, rfl⟩
              rw [← hr7] at N9
              have s7 : ∀ p ∈ r5, p ∈ r7 := fun p hp => by rw [hr7]; exact List.mem_append.mpr (.inl hp)
              have off7 : OwnOff r7 [hl, la, lb] := by
                intro p hp b hb
                rw [hr7] at hp
                rcases List.mem_append.mp hp with h | h
                · exact off5 p h b hb
                · refine hown3 p h b ?_
                  simp only [List.mem_cons, List.mem_nil_iff, or_false] at hb
                  simp only [List.map_cons, List.mem_cons]
                  rcases hb with h | h | h <;> simp only [h, true_or, or_true]
              replace hx9 := s7 _ hx9
              replace hy9 := s7 _ hy9
              replace hev5 := s7 _ hev5
              replace q5 := s7 _ q5
              replace q6 := s7 _ q6
              have so := hEv.so
              cases hev : e.ev with
              | true =>
                simp only [evTag, hev, if_true] at hy9
                repeat' (first | (k_unfold; (try dsimp only)) | (k_end; wrow_close) | (((with_reducible show wpAny _ _ (subscriptTail _ _ (Value.ref _) (Value.int _ _)) _ _ _); k_dflt (refine' kda_item (knd := PySem.intKind _ _) ?zzN ?zzm ?zzd ?zzk ?zzv ?_ ?zzhs ?zzhg; (case zzN => k_asm); (case zzm => k_mem); (case zzd => assumption); (case zzk => exact intKind_is _ _ _ _); (case zzv => assumption); (case zzhs => with_unfolding_all rfl); (case zzhg => (intro _; with_unfolding_all rfl)); k_whole))) | ((with_reducible show wpAny _ _ (PySem.setItem (Value.ref _) (Value.int _ _) _) _ _ _); (k_dflt (refine' kda_set (knd := PySem.intKind _ _) ?zzF ?zzN ?zzU ?zzd (intKind_is _ _ _ _) ?zzz ?_; (case zzF => k_asm); (case zzN => k_asm); (case zzU => k_updF); (case zzd => assumption); (case zzz => rw [sizeLine_eq]; omega)); intro h' o' F' N' hd'; (try dsimp only at N'))) | (((with_reducible show wpAny _ _ (call (Value.ref 126) _) _ _ _); k_dflt (refine' Ctr.use ?zzk1 ?zzk2 ?zzk3 ?zzk4 ?zzk5 ?zzkK (came_c _ _ _ _ ?zzq0 _ _ _ _ _ _ _ _ ?zzq1 ?zza0 ?zza1 ?zzb0 ?zzb1 _ _ _ _ _ _ _ _ ?zzq2 ?zzc0 ?zzc1 ?zzd0 ?zzd1) ?zzkd ?zzku ?_; (case zzk1 => k_asm); (case zzk2 => k_asm); (case zzk3 => k_asm); (case zzk4 => k_asm); (case zzk5 => k_asm); (case zzkK => first | exact rfl | assumption); (case zzq0 => assumption); (case zzq1 => k_mem); (case zzq2 => k_mem); (case zza0 => assumption); (case zza1 => assumption); (case zzb0 => assumption); (case zzb1 => assumption); (case zzc0 => assumption); (case zzc1 => assumption); (case zzd0 => assumption); (case zzd1 => assumption); (case zzkd => ktr_room); (case zzku => ktr_units)); intro r9 n9 h9 tk9 F9 N9 e9; obtain ⟨e8, e7⟩ := e9; subst e7; subst e8; (try dsimp only); (try k_fold); (try k_sweep); walk_say "CALL 126")) | ((with_reducible show wpAny _ _ (PySem.setItem (Value.ref _) (Value.int _ _) _) _ _ _); (k_dflt (refine' list_set ?zzF ?zzN ?zzU ?zzh0 ?zzh1 ?zzh2 ?_; (case zzF => k_asm); (case zzN => k_asm); (case zzU => k_upd); (case zzh0 => omega); (case zzh1 => omega); (case zzh2 => omega)); intro h' F' N'; (try dsimp only at N'))) | (((with_reducible show wpAny _ _ (subscriptTail _ _ (Value.ref _) (Value.int _ _)) _ _ _); k_dflt (refine' list_at ?zzN ?zzm ?zzh0 ?zzh1 ?zze ?_ ?zzhs ?zzhg; (case zzN => k_asm); (case zzm => k_mem); (case zze => assumption); (case zzh0 => omega); (case zzh1 => omega); (case zzhs => with_unfolding_all rfl); (case zzhg => (intro _; with_unfolding_all rfl)); k_whole))) | ((with_reducible show wpAny _ _ (PySem.callWith _ (Value.ref _) _ _ _) _ _ _); (k_dflt (refine' callWith_F ?zzk1 ?_; (case zzk1 => exact FnAt.of (by k_asm) (by k_mem)); k_whole))) | ((with_reducible show wpAny _ _ (PySem.getAttr (Value.ref _) _ _) _ _ _); (k_dflt (refine' get_own ?zzk1 ?zzk2 ?zzk3 ?zzk4 ?zzk5 ?zzk6 ?zzk7 ?zzk8 ?zzk9 ?_; (case zzk1 => k_asm); (case zzk2 => k_asm); (case zzk3 => k_inst); (case zzk4 => k_is); (case zzk5 => k_is); (case zzk6 => k_is); (case zzk7 => k_is); (case zzk8 => first | assumption | k_get); (case zzk9 => k_handed); k_whole))) | (((with_reducible show wpAny _ _ (call (Value.builtin "len") [Value.ref _]) _ _ _); k_dflt (refine' len_M ?zzN ?zzm ?zzf ?_; (case zzN => k_asm); (case zzm => k_mem); (case zzf => omega); k_whole))) | ((with_reducible show wpAny _ _ (PySem.execs (_ :: _) _) _ _ _); ((with_reducible refine wpAny_execs_cons ?_); (try dsimp only); (try k_fold))) | walk1 | (dsimp only; (first | (((with_reducible show wpAny _ _ (subscriptTail _ _ (Value.ref _) (Value.int _ _)) _ _ _); k_dflt (refine' kda_item (knd := PySem.intKind _ _) ?zzN ?zzm ?zzd ?zzk ?zzv ?_ ?zzhs ?zzhg; (case zzN => k_asm); (case zzm => k_mem); (case zzd => assumption); (case zzk => exact intKind_is _ _ _ _); (case zzv => assumption); (case zzhs => with_unfolding_all rfl); (case zzhg => (intro _; with_unfolding_all rfl)); k_whole))) | ((with_reducible show wpAny _ _ (PySem.setItem (Value.ref _) (Value.int _ _) _) _ _ _); (k_dflt (refine' kda_set (knd := PySem.intKind _ _) ?zzF ?zzN ?zzU ?zzd (intKind_is _ _ _ _) ?zzz ?_; (case zzF => k_asm); (case zzN => k_asm); (case zzU => k_updF); (case zzd => assumption); (case zzz => rw [sizeLine_eq]; omega)); intro h' o' F' N' hd'; (try dsimp only at N'))) | (((with_reducible show wpAny _ _ (call (Value.ref 126) _) _ _ _); k_dflt (refine' Ctr.use ?zzk1 ?zzk2 ?zzk3 ?zzk4 ?zzk5 ?zzkK (came_c _ _ _ _ ?zzq0 _ _ _ _ _ _ _ _ ?zzq1 ?zza0 ?zza1 ?zzb0 ?zzb1 _ _ _ _ _ _ _ _ ?zzq2 ?zzc0 ?zzc1 ?zzd0 ?zzd1) ?zzkd ?zzku ?_; (case zzk1 => k_asm); (case zzk2 => k_asm); (case zzk3 => k_asm); (case zzk4 => k_asm); (case zzk5 => k_asm); (case zzkK => first | exact rfl | assumption); (case zzq0 => assumption); (case zzq1 => k_mem); (case zzq2 => k_mem); (case zza0 => assumption); (case zza1 => assumption); (case zzb0 => assumption); (case zzb1 => assumption); (case zzc0 => assumption); (case zzc1 => assumption); (case zzd0 => assumption); (case zzd1 => assumption); (case zzkd => ktr_room); (case zzku => ktr_units)); intro r9 n9 h9 tk9 F9 N9 e9; obtain ⟨e8, e7⟩ := e9; subst e7; subst e8; (try dsimp only); (try k_fold); (try k_sweep); walk_say "CALL 126")) | ((with_reducible show wpAny _ _ (PySem.setItem (Value.ref _) (Value.int _ _) _) _ _ _); (k_dflt (refine' list_set ?zzF ?zzN ?zzU ?zzh0 ?zzh1 ?zzh2 ?_; (case zzF => k_asm); (case zzN => k_asm); (case zzU => k_upd); (case zzh0 => omega); (case zzh1 => omega); (case zzh2 => omega)); intro h' F' N'; (try dsimp only at N'))) | (((with_reducible show wpAny _ _ (subscriptTail _ _ (Value.ref _) (Value.int _ _)) _ _ _); k_dflt (refine' list_at ?zzN ?zzm ?zzh0 ?zzh1 ?zze ?_ ?zzhs ?zzhg; (case zzN => k_asm); (case zzm => k_mem); (case zze => assumption); (case zzh0 => omega); (case zzh1 => omega); (case zzhs => with_unfolding_all rfl); (case zzhg => (intro _; with_unfolding_all rfl)); k_whole))) | ((with_reducible show wpAny _ _ (PySem.callWith _ (Value.ref _) _ _ _) _ _ _); (k_dflt (refine' callWith_F ?zzk1 ?_; (case zzk1 => exact FnAt.of (by k_asm) (by k_mem)); k_whole))) | ((with_reducible show wpAny _ _ (PySem.getAttr (Value.ref _) _ _) _ _ _); (k_dflt (refine' get_own ?zzk1 ?zzk2 ?zzk3 ?zzk4 ?zzk5 ?zzk6 ?zzk7 ?zzk8 ?zzk9 ?_; (case zzk1 => k_asm); (case zzk2 => k_asm); (case zzk3 => k_inst); (case zzk4 => k_is); (case zzk5 => k_is); (case zzk6 => k_is); (case zzk7 => k_is); (case zzk8 => first | assumption | k_get); (case zzk9 => k_handed); k_whole))) | (((with_reducible show wpAny _ _ (call (Value.builtin "len") [Value.ref _]) _ _ _); k_dflt (refine' len_M ?zzN ?zzm ?zzf ?_; (case zzN => k_asm); (case zzm => k_mem); (case zzf => omega); k_whole))) | ((with_reducible show wpAny _ _ (PySem.execs (_ :: _) _) _ _ _); ((with_reducible refine wpAny_execs_cons ?_); (try dsimp only); (try k_fold))) | walk1)) | (leave1; walk_say "STEP leave1"; try dsimp only) | fail "no step")
                (rename News _ _ _ _ => lN9)
                refine' due_fin (by k_asm) lN9 ?_ ?_ hown3 hr7 (lastsAt_ev kvs1 kvs2 he hev) (fun p hp => hp)
                · show some (Value.bool (comeB (evs.take i3) hv1 hv2)) = some (Value.bool (comeB (evs.take (i3 + 1)) hv1 hv2))
                  rw [comeB_step hv1 hv2 he, hev, Bool.not_true, Bool.false_and, Bool.or_false]
                · intro z hz hz2
                  simp at hz2
                  simp [hz, hz2]
              | false =>
                simp only [evTag, hev, Bool.false_eq_true, if_false] at hy9
                obtain ⟨vv0, hval0, x0, g1, g2, g3, g4, rfl, hx0, c0, c1, d0, d1⟩ := hheld1 e.key hEv.k0 (hEv.sig hev)
                obtain ⟨vv1, hval, x1, f1, f2, f3, f4, rfl, hx1, a0, a1, b0, b1⟩ := hheld2 e.key hEv.k0 (hEv.sig hev)
                have e0 : lastV kvs1 e = .ref x0 := by simp [lastV, hev, heldV, hval0]
                have e1 : lastV kvs2 e = .ref x1 := by simp [lastV, hev, heldV, hval]
                rw [e0] at hgo
                replace hx0 := s7 _ (p5 _ hx0)
                replace hx1 := s7 _ (p5 _ hx1)
                have hst : comeB (evs.take (i3 + 1)) hv1 hv2 = (comeB (evs.take i3) hv1 hv2 || cameB e.so ((hv1 e.key).1, (hv1 e.key).2.1, (hv1 e.key).2.2) ((hv2 e.key).1, (hv2 e.key).2.1, (hv2 e.key).2.2)) := by
                  rw [comeB_step hv1 hv2 he, hev, Bool.not_false, Bool.true_and]
                have hls := lastsAt_set kvs1 kvs2 he
                rw [e1] at hls
                repeat' (first | (k_unfold; (try dsimp only)) | (k_end; wrow_close) | (((with_reducible show wpAny _ _ (subscriptTail _ _ (Value.ref _) (Value.int _ _)) _ _ _); k_dflt (refine' kda_item (knd := PySem.intKind _ _) ?zzN ?zzm ?zzd ?zzk ?zzv ?_ ?zzhs ?zzhg; (case zzN => k_asm); (case zzm => k_mem); (case zzd => assumption); (case zzk => exact intKind_is _ _ _ _); (case zzv => assumption); (case zzhs => with_unfolding_all rfl); (case zzhg => (intro _; with_unfolding_all rfl)); k_whole))) | ((with_reducible show wpAny _ _ (PySem.setItem (Value.ref _) (Value.int _ _) _) _ _ _); (k_dflt (refine' kda_set (knd := PySem.intKind _ _) ?zzF ?zzN ?zzU ?zzd (intKind_is _ _ _ _) ?zzz ?_; (case zzF => k_asm); (case zzN => k_asm); (case zzU => k_updF); (case zzd => assumption); (case zzz => rw [sizeLine_eq]; omega)); intro h' o' F' N' hd'; (try dsimp only at N'))) | (((with_reducible show wpAny _ _ (call (Value.ref 126) _) _ _ _); k_dflt (refine' Ctr.use ?zzk1 ?zzk2 ?zzk3 ?zzk4 ?zzk5 ?zzkK (came_c _ _ _ _ ?zzq0 _ _ _ _ _ _ _ _ ?zzq1 ?zza0 ?zza1 ?zzb0 ?zzb1 _ _ _ _ _ _ _ _ ?zzq2 ?zzc0 ?zzc1 ?zzd0 ?zzd1) ?zzkd ?zzku ?_; (case zzk1 => k_asm); (case zzk2 => k_asm); (case zzk3 => k_asm); (case zzk4 => k_asm); (case zzk5 => k_asm); (case zzkK => first | exact rfl | assumption); (case zzq0 => assumption); (case zzq1 => k_mem); (case zzq2 => k_mem); (case zza0 => assumption); (case zza1 => assumption); (case zzb0 => assumption); (case zzb1 => assumption); (case zzc0 => assumption); (case zzc1 => assumption); (case zzd0 => assumption); (case zzd1 => assumption); (case zzkd => ktr_room); (case zzku => ktr_units)); intro r9 n9 h9 tk9 F9 N9 e9; obtain ⟨e8, e7⟩ := e9; subst e7; subst e8; (try dsimp only); (try k_fold); (try k_sweep); walk_say "CALL 126")) | ((with_reducible show wpAny _ _ (PySem.setItem (Value.ref _) (Value.int _ _) _) _ _ _); (k_dflt (refine' list_set ?zzF ?zzN ?zzU ?zzh0 ?zzh1 ?zzh2 ?_; (case zzF => k_asm); (case zzN => k_asm); (case zzU => k_upd); (case zzh0 => omega); (case zzh1 => omega); (case zzh2 => omega)); intro h' F' N'; (try dsimp only at N'))) | (((with_reducible show wpAny _ _ (subscriptTail _ _ (Value.ref _) (Value.int _ _)) _ _ _); k_dflt (refine' list_at ?zzN ?zzm ?zzh0 ?zzh1 ?zze ?_ ?zzhs ?zzhg; (case zzN => k_asm); (case zzm => k_mem); (case zze => assumption); (case zzh0 => omega); (case zzh1 => omega); (case zzhs => with_unfolding_all rfl); (case zzhg => (intro _; with_unfolding_all rfl)); k_whole))) | ((with_reducible show wpAny _ _ (PySem.callWith _ (Value.ref _) _ _ _) _ _ _); (k_dflt (refine' callWith_F ?zzk1 ?_; (case zzk1 => exact FnAt.of (by k_asm) (by k_mem)); k_whole))) | ((with_reducible show wpAny _ _ (PySem.getAttr (Value.ref _) _ _) _ _ _); (k_dflt (refine' get_own ?zzk1 ?zzk2 ?zzk3 ?zzk4 ?zzk5 ?zzk6 ?zzk7 ?zzk8 ?zzk9 ?_; (case zzk1 => k_asm); (case zzk2 => k_asm); (case zzk3 => k_inst); (case zzk4 => k_is); (case zzk5 => k_is); (case zzk6 => k_is); (case zzk7 => k_is); (case zzk8 => first | assumption | k_get); (case zzk9 => k_handed); k_whole))) | (((with_reducible show wpAny _ _ (call (Value.builtin "len") [Value.ref _]) _ _ _); k_dflt (refine' len_M ?zzN ?zzm ?zzf ?_; (case zzN => k_asm); (case zzm => k_mem); (case zzf => omega); k_whole))) | ((with_reducible show wpAny _ _ (PySem.execs (_ :: _) _) _ _ _); ((with_reducible refine wpAny_execs_cons ?_); (try dsimp only); (try k_fold))) | walk1 | (dsimp only; (first | (((with_reducible show wpAny _ _ (subscriptTail _ _ (Value.ref _) (Value.int _ _)) _ _ _); k_dflt (refine' kda_item (knd := PySem.intKind _ _) ?zzN ?zzm ?zzd ?zzk ?zzv ?_ ?zzhs ?zzhg; (case zzN => k_asm); (case zzm => k_mem); (case zzd => assumption); (case zzk => exact intKind_is _ _ _ _); (case zzv => assumption); (case zzhs => with_unfolding_all rfl); (case zzhg => (intro _; with_unfolding_all rfl)); k_whole))) | ((with_reducible show wpAny _ _ (PySem.setItem (Value.ref _) (Value.int _ _) _) _ _ _); (k_dflt (refine' kda_set (knd := PySem.intKind _ _) ?zzF ?zzN ?zzU ?zzd (intKind_is _ _ _ _) ?zzz ?_; (case zzF => k_asm); (case zzN => k_asm); (case zzU => k_updF); (case zzd => assumption); (case zzz => rw [sizeLine_eq]; omega)); intro h' o' F' N' hd'; (try dsimp only at N'))) | (((with_reducible show wpAny _ _ (call (Value.ref 126) _) _ _ _); k_dflt (refine' Ctr.use ?zzk1 ?zzk2 ?zzk3 ?zzk4 ?zzk5 ?zzkK (came_c _ _ _ _ ?zzq0 _ _ _ _ _ _ _ _ ?zzq1 ?zza0 ?zza1 ?zzb0 ?zzb1 _ _ _ _ _ _ _ _ ?zzq2 ?zzc0 ?zzc1 ?zzd0 ?zzd1) ?zzkd ?zzku ?_; (case zzk1 => k_asm); (case zzk2 => k_asm); (case zzk3 => k_asm); (case zzk4 => k_asm); (case zzk5 => k_asm); (case zzkK => first | exact rfl | assumption); (case zzq0 => assumption); (case zzq1 => k_mem); (case zzq2 => k_mem); (case zza0 => assumption); (case zza1 => assumption); (case zzb0 => assumption); (case zzb1 => assumption); (case zzc0 => assumption); (case zzc1 => assumption); (case zzd0 => assumption); (case zzd1 => assumption); (case zzkd => ktr_room); (case zzku => ktr_units)); intro r9 n9 h9 tk9 F9 N9 e9; obtain ⟨e8, e7⟩ := e9; subst e7; subst e8; (try dsimp only); (try k_fold); (try k_sweep); walk_say "CALL 126")) | ((with_reducible show wpAny _ _ (PySem.setItem (Value.ref _) (Value.int _ _) _) _ _ _); (k_dflt (refine' list_set ?zzF ?zzN ?zzU ?zzh0 ?zzh1 ?zzh2 ?_; (case zzF => k_asm); (case zzN => k_asm); (case zzU => k_upd); (case zzh0 => omega); (case zzh1 => omega); (case zzh2 => omega)); intro h' F' N'; (try dsimp only at N'))) | (((with_reducible show wpAny _ _ (subscriptTail _ _ (Value.ref _) (Value.int _ _)) _ _ _); k_dflt (refine' list_at ?zzN ?zzm ?zzh0 ?zzh1 ?zze ?_ ?zzhs ?zzhg; (case zzN => k_asm); (case zzm => k_mem); (case zze => assumption); (case zzh0 => omega); (case zzh1 => omega); (case zzhs => with_unfolding_all rfl); (case zzhg => (intro _; with_unfolding_all rfl)); k_whole))) | ((with_reducible show wpAny _ _ (PySem.callWith _ (Value.ref _) _ _ _) _ _ _); (k_dflt (refine' callWith_F ?zzk1 ?_; (case zzk1 => exact FnAt.of (by k_asm) (by k_mem)); k_whole))) | ((with_reducible show wpAny _ _ (PySem.getAttr (Value.ref _) _ _) _ _ _); (k_dflt (refine' get_own ?zzk1 ?zzk2 ?zzk3 ?zzk4 ?zzk5 ?zzk6 ?zzk7 ?zzk8 ?zzk9 ?_; (case zzk1 => k_asm); (case zzk2 => k_asm); (case zzk3 => k_inst); (case zzk4 => k_is); (case zzk5 => k_is); (case zzk6 => k_is); (case zzk7 => k_is); (case zzk8 => first | assumption | k_get); (case zzk9 => k_handed); k_whole))) | (((with_reducible show wpAny _ _ (call (Value.builtin "len") [Value.ref _]) _ _ _); k_dflt (refine' len_M ?zzN ?zzm ?zzf ?_; (case zzN => k_asm); (case zzm => k_mem); (case zzf => omega); k_whole))) | ((with_reducible show wpAny _ _ (PySem.execs (_ :: _) _) _ _ _); ((with_reducible refine wpAny_execs_cons ?_); (try dsimp only); (try k_fold))) | walk1)) | (leave1; walk_say "STEP leave1"; try dsimp only) | fail "no step")
                all_goals (
                  (rename News _ _ _ _ => lN9)
                  refine' due_fin (by k_asm) lN9 ?_ ?_ hown3 hr7 ?_ (fun p hp => hp)
                  · first
                    | (show some (Value.bool true) = some (Value.bool (comeB (evs.take (i3 + 1)) hv1 hv2)); rw [hst, (by assumption : comeB (evs.take i3) hv1 hv2 = true), Bool.true_or])
                    | (show some (Value.bool (comeB (evs.take i3) hv1 hv2)) = some (Value.bool (comeB (evs.take (i3 + 1)) hv1 hv2)); rw [hst, (by assumption : comeB (evs.take i3) hv1 hv2 = true), Bool.true_or])
                    | (show some (Value.bool (cameB e.so ((hv1 e.key).1, (hv1 e.key).2.1, (hv1 e.key).2.2) ((hv2 e.key).1, (hv2 e.key).2.1, (hv2 e.key).2.2))) = some (Value.bool (comeB (evs.take (i3 + 1)) hv1 hv2)); rw [hst, (by assumption : comeB (evs.take i3) hv1 hv2 = false), Bool.false_or])
                  · intro z hz hz2
                    simp at hz2
                    simp [hz, hz2]
                  · rw [Int.toNat_natCast]; exact hls)
            case done3 =>
              intro u3 nx h9 tk9 ⟨n5, enx⟩ F9 N9
              subst enx
              dsimp only
              have e9 : lastsAt evs kvs1 kvs2 vsE.length = evs.map (lastV kvs2) := by rw [hlE]; simp [lastsAt]
              rw [e9] at N9
              simp only [hlE, List.take_length] at F9
              clear lN lF
              repeat' ((fail_if_success (with_reducible show wpAny _ _ (call (Value.ref 70) _) _ _ _)); (first | (k_unfold; (try dsimp only)) | (k_end; wrow_close) | (((with_reducible show wpAny _ _ (subscriptTail _ _ (Value.ref _) (Value.int _ _)) _ _ _); k_dflt (refine' kda_item (knd := PySem.intKind _ _) ?zzN ?zzm ?zzd ?zzk ?zzv ?_ ?zzhs ?zzhg; (case zzN => k_asm); (case zzm => k_mem); (case zzd => assumption); (case zzk => exact intKind_is _ _ _ _); (case zzv => assumption); (case zzhs => with_unfolding_all rfl); (case zzhg => (intro _; with_unfolding_all rfl)); k_whole))) | ((with_reducible show wpAny _ _ (PySem.setItem (Value.ref _) (Value.int _ _) _) _ _ _); (k_dflt (refine' kda_set (knd := PySem.intKind _ _) ?zzF ?zzN ?zzU ?zzd (intKind_is _ _ _ _) ?zzz ?_; (case zzF => k_asm); (case zzN => k_asm); (case zzU => k_updF); (case zzd => assumption); (case zzz => rw [sizeLine_eq]; omega)); intro h' o' F' N' hd'; (try dsimp only at N'))) | (((with_reducible show wpAny _ _ (call (Value.ref 126) _) _ _ _); k_dflt (refine' Ctr.use ?zzk1 ?zzk2 ?zzk3 ?zzk4 ?zzk5 ?zzkK (came_c _ _ _ _ ?zzq0 _ _ _ _ _ _ _ _ ?zzq1 ?zza0 ?zza1 ?zzb0 ?zzb1 _ _ _ _ _ _ _ _ ?zzq2 ?zzc0 ?zzc1 ?zzd0 ?zzd1) ?zzkd ?zzku ?_; (case zzk1 => k_asm); (case zzk2 => k_asm); (case zzk3 => k_asm); (case zzk4 => k_asm); (case zzk5 => k_asm); (case zzkK => first | exact rfl | assumption); (case zzq0 => assumption); (case zzq1 => k_mem); (case zzq2 => k_mem); (case zza0 => assumption); (case zza1 => assumption); (case zzb0 => assumption); (case zzb1 => assumption); (case zzc0 => assumption); (case zzc1 => assumption); (case zzd0 => assumption); (case zzd1 => assumption); (case zzkd => ktr_room); (case zzku => ktr_units)); intro r9 n9 h9 tk9 F9 N9 e9; obtain ⟨e8, e7⟩ := e9; subst e7; subst e8; (try dsimp only); (try k_fold); (try k_sweep); walk_say "CALL 126")) | ((with_reducible show wpAny _ _ (PySem.setItem (Value.ref _) (Value.int _ _) _) _ _ _); (k_dflt (refine' list_set ?zzF ?zzN ?zzU ?zzh0 ?zzh1 ?zzh2 ?_; (case zzF => k_asm); (case zzN => k_asm); (case zzU => k_upd); (case zzh0 => omega); (case zzh1 => omega); (case zzh2 => omega)); intro h' F' N'; (try dsimp only at N'))) | (((with_reducible show wpAny _ _ (subscriptTail _ _ (Value.ref _) (Value.int _ _)) _ _ _); k_dflt (refine' list_at ?zzN ?zzm ?zzh0 ?zzh1 ?zze ?_ ?zzhs ?zzhg; (case zzN => k_asm); (case zzm => k_mem); (case zze => assumption); (case zzh0 => omega); (case zzh1 => omega); (case zzhs => with_unfolding_all rfl); (case zzhg => (intro _; with_unfolding_all rfl)); k_whole))) | ((with_reducible show wpAny _ _ (PySem.callWith _ (Value.ref _) _ _ _) _ _ _); (k_dflt (refine' callWith_F ?zzk1 ?_; (case zzk1 => exact FnAt.of (by k_asm) (by k_mem)); k_whole))) | ((with_reducible show wpAny _ _ (PySem.getAttr (Value.ref _) _ _) _ _ _); (k_dflt (refine' get_own ?zzk1 ?zzk2 ?zzk3 ?zzk4 ?zzk5 ?zzk6 ?zzk7 ?zzk8 ?zzk9 ?_; (case zzk1 => k_asm); (case zzk2 => k_asm); (case zzk3 => k_inst); (case zzk4 => k_is); (case zzk5 => k_is); (case zzk6 => k_is); (case zzk7 => k_is); (case zzk8 => first | assumption | k_get); (case zzk9 => k_handed); k_whole))) | (((with_reducible show wpAny _ _ (call (Value.builtin "len") [Value.ref _]) _ _ _); k_dflt (refine' len_M ?zzN ?zzm ?zzf ?_; (case zzN => k_asm); (case zzm => k_mem); (case zzf => omega); k_whole))) | ((with_reducible show wpAny _ _ (PySem.execs (_ :: _) _) _ _ _); ((with_reducible refine wpAny_execs_cons ?_); (try dsimp only); (try k_fold))) | walk1 | (dsimp only; (first | (((with_reducible show wpAny _ _ (subscriptTail _ _ (Value.ref _) (Value.int _ _)) _ _ _); k_dflt (refine' kda_item (knd := PySem.intKind _ _) ?zzN ?zzm ?zzd ?zzk ?zzv ?_ ?zzhs ?zzhg; (case zzN => k_asm); (case zzm => k_mem); (case zzd => assumption); (case zzk => exact intKind_is _ _ _ _); (case zzv => assumption); (case zzhs => with_unfolding_all rfl); (case zzhg => (intro _; with_unfolding_all rfl)); k_whole))) | ((with_reducible show wpAny _ _ (PySem.setItem (Value.ref _) (Value.int _ _) _) _ _ _); (k_dflt (refine' kda_set (knd := PySem.intKind _ _) ?zzF ?zzN ?zzU ?zzd (intKind_is _ _ _ _) ?zzz ?_; (case zzF => k_asm); (case zzN => k_asm); (case zzU => k_updF); (case zzd => assumption); (case zzz => rw [sizeLine_eq]; omega)); intro h' o' F' N' hd'; (try dsimp only at N'))) | (((with_reducible show wpAny _ _ (call (Value.ref 126) _) _ _ _); k_dflt (refine' Ctr.use ?zzk1 ?zzk2 ?zzk3 ?zzk4 ?zzk5 ?zzkK (came_c _ _ _ _ ?zzq0 _ _ _ _ _ _ _ _ ?zzq1 ?zza0 ?zza1 ?zzb0 ?zzb1 _ _ _ _ _ _ _ _ ?zzq2 ?zzc0 ?zzc1 ?zzd0 ?zzd1) ?zzkd ?zzku ?_; (case zzk1 => k_asm); (case zzk2 => k_asm); (case zzk3 => k_asm); (case zzk4 => k_asm); (case zzk5 => k_asm); (case zzkK => first | exact rfl | assumption); (case zzq0 => assumption); (case zzq1 => k_mem); (case zzq2 => k_mem); (case zza0 => assumption); (case zza1 => assumption); (case zzb0 => assumption); (case zzb1 => assumption); (case zzc0 => assumption); (case zzc1 => assumption); (case zzd0 => assumption); (case zzd1 => assumption); (case zzkd => ktr_room); (case zzku => ktr_units)); intro r9 n9 h9 tk9 F9 N9 e9; obtain ⟨e8, e7⟩ := e9; subst e7; subst e8; (try dsimp only); (try k_fold); (try k_sweep); walk_say "CALL 126")) | ((with_reducible show wpAny _ _ (PySem.setItem (Value.ref _) (Value.int _ _) _) _ _ _); (k_dflt (refine' list_set ?zzF ?zzN ?zzU ?zzh0 ?zzh1 ?zzh2 ?_; (case zzF => k_asm); (case zzN => k_asm); (case zzU => k_upd); (case zzh0 => omega); (case zzh1 => omega); (case zzh2 => omega)); intro h' F' N'; (try dsimp only at N'))) | (((with_reducible show wpAny _ _ (subscriptTail _ _ (Value.ref _) (Value.int _ _)) _ _ _); k_dflt (refine' list_at ?zzN ?zzm ?zzh0 ?zzh1 ?zze ?_ ?zzhs ?zzhg; (case zzN => k_asm); (case zzm => k_mem); (case zze => assumption); (case zzh0 => omega); (case zzh1 => omega); (case zzhs => with_unfolding_all rfl); (case zzhg => (intro _; with_unfolding_all rfl)); k_whole))) | ((with_reducible show wpAny _ _ (PySem.callWith _ (Value.ref _) _ _ _) _ _ _); (k_dflt (refine' callWith_F ?zzk1 ?_; (case zzk1 => exact FnAt.of (by k_asm) (by k_mem)); k_whole))) | ((with_reducible show wpAny _ _ (PySem.getAttr (Value.ref _) _ _) _ _ _); (k_dflt (refine' get_own ?zzk1 ?zzk2 ?zzk3 ?zzk4 ?zzk5 ?zzk6 ?zzk7 ?zzk8 ?zzk9 ?_; (case zzk1 => k_asm); (case zzk2 => k_asm); (case zzk3 => k_inst); (case zzk4 => k_is); (case zzk5 => k_is); (case zzk6 => k_is); (case zzk7 => k_is); (case zzk8 => first | assumption | k_get); (case zzk9 => k_handed); k_whole))) | (((with_reducible show wpAny _ _ (call (Value.builtin "len") [Value.ref _]) _ _ _); k_dflt (refine' len_M ?zzN ?zzm ?zzf ?_; (case zzN => k_asm); (case zzm => k_mem); (case zzf => omega); k_whole))) | ((with_reducible show wpAny _ _ (PySem.execs (_ :: _) _) _ _ _); ((with_reducible refine wpAny_execs_cons ?_); (try dsimp only); (try k_fold))) | walk1)) | (leave1; walk_say "STEP leave1"; try dsimp only)))
              refine' come_w (evs := evs) (r5 := r5) (k0 := kvs1) (v0 := hv1) (v1 := hv2) (lb := lb) ?k1 ?k2 ?k3 ?k4 ?k5 ?kK hM5 q2 q4 hgw q3 ?hr off5 ?m4 z1 ?m5 hd2 (EvsAt.mono ⟨vsE, nE, hevl0, hD0⟩ p5) hok hlen (hheld1.mono p5) (hheld2.mono p5) ?kd ?ku ?_
              case k1 => k_asm
              case k2 => k_asm
              case k3 => k_asm
              case k4 => k_asm
              case k5 => k_asm
              case kK => first | exact rfl | assumption
              case m4 => k_dflt k_mem
              case m5 => k_dflt k_mem
              case hr => intro p hp; simp only [List.mem_cons, hp, or_true]
              case kd => ktr_room
              case ku => ktr_units
              intro n6 r8 hA tkA FA NA putA offA
              have w1 := putA (lb, listOf (evs.map (lastV kvs2)).toArray n5) (by k_dflt k_mem) (fun q => z3 q.symm)
              have w2 := putA (hl, ho2) (by k_dflt k_mem) z1
              have s8 : ∀ p ∈ r5, p ∈ r8 := fun p hp => putA p (by simp only [List.mem_cons, hp, or_true]) (off5 p hp la (by simp))
              replace q1 := s8 _ q1
              replace q2 := s8 _ q2
              replace q3 := s8 _ q3
              replace q4 := s8 _ q4
              replace q5 := s8 _ q5
              replace q6 := s8 _ q6
              clear putA
              repeat' ((fail_if_success (with_reducible show wpAny _ _ (PySem.compareOp _ (Value.ref _) (Value.ref _)) _ _ _)); (first | (k_unfold; (try dsimp only)) | (k_end; wrow_close) | (((with_reducible show wpAny _ _ (subscriptTail _ _ (Value.ref _) (Value.int _ _)) _ _ _); k_dflt (refine' kda_item (knd := PySem.intKind _ _) ?zzN ?zzm ?zzd ?zzk ?zzv ?_ ?zzhs ?zzhg; (case zzN => k_asm); (case zzm => k_mem); (case zzd => assumption); (case zzk => exact intKind_is _ _ _ _); (case zzv => assumption); (case zzhs => with_unfolding_all rfl); (case zzhg => (intro _; with_unfolding_all rfl)); k_whole))) | ((with_reducible show wpAny _ _ (PySem.setItem (Value.ref _) (Value.int _ _) _) _ _ _); (k_dflt (refine' kda_set (knd := PySem.intKind _ _) ?zzF ?zzN ?zzU ?zzd (intKind_is _ _ _ _) ?zzz ?_; (case zzF => k_asm); (case zzN => k_asm); (case zzU => k_updF); (case zzd => assumption); (case zzz => rw [sizeLine_eq]; omega)); intro h' o' F' N' hd'; (try dsimp only at N'))) | (((with_reducible show wpAny _ _ (call (Value.ref 126) _) _ _ _); k_dflt (refine' Ctr.use ?zzk1 ?zzk2 ?zzk3 ?zzk4 ?zzk5 ?zzkK (came_c _ _ _ _ ?zzq0 _ _ _ _ _ _ _ _ ?zzq1 ?zza0 ?zza1 ?zzb0 ?zzb1 _ _ _ _ _ _ _ _ ?zzq2 ?zzc0 ?zzc1 ?zzd0 ?zzd1) ?zzkd ?zzku ?_; (case zzk1 => k_asm); (case zzk2 => k_asm); (case zzk3 => k_asm); (case zzk4 => k_asm); (case zzk5 => k_asm); (case zzkK => first | exact rfl | assumption); (case zzq0 => assumption); (case zzq1 => k_mem); (case zzq2 => k_mem); (case zza0 => assumption); (case zza1 => assumption); (case zzb0 => assumption); (case zzb1 => assumption); (case zzc0 => assumption); (case zzc1 => assumption); (case zzd0 => assumption); (case zzd1 => assumption); (case zzkd => ktr_room); (case zzku => ktr_units)); intro r9 n9 h9 tk9 F9 N9 e9; obtain ⟨e8, e7⟩ := e9; subst e7; subst e8; (try dsimp only); (try k_fold); (try k_sweep); walk_say "CALL 126")) | ((with_reducible show wpAny _ _ (PySem.setItem (Value.ref _) (Value.int _ _) _) _ _ _); (k_dflt (refine' list_set ?zzF ?zzN ?zzU ?zzh0 ?zzh1 ?zzh2 ?_; (case zzF => k_asm); (case zzN => k_asm); (case zzU => k_upd); (case zzh0 => omega); (case zzh1 => omega); (case zzh2 => omega)); intro h' F' N'; (try dsimp only at N'))) | (((with_reducible show wpAny _ _ (subscriptTail _ _ (Value.ref _) (Value.int _ _)) _ _ _); k_dflt (refine' list_at ?zzN ?zzm ?zzh0 ?zzh1 ?zze ?_ ?zzhs ?zzhg; (case zzN => k_asm); (case zzm => k_mem); (case zze => assumption); (case zzh0 => omega); (case zzh1 => omega); (case zzhs => with_unfolding_all rfl); (case zzhg => (intro _; with_unfolding_all rfl)); k_whole))) | ((with_reducible show wpAny _ _ (PySem.callWith _ (Value.ref _) _ _ _) _ _ _); (k_dflt (refine' callWith_F ?zzk1 ?_; (case zzk1 => exact FnAt.of (by k_asm) (by k_mem)); k_whole))) | ((with_reducible show wpAny _ _ (PySem.getAttr (Value.ref _) _ _) _ _ _); (k_dflt (refine' get_own ?zzk1 ?zzk2 ?zzk3 ?zzk4 ?zzk5 ?zzk6 ?zzk7 ?zzk8 ?zzk9 ?_; (case zzk1 => k_asm); (case zzk2 => k_asm); (case zzk3 => k_inst); (case zzk4 => k_is); (case zzk5 => k_is); (case zzk6 => k_is); (case zzk7 => k_is); (case zzk8 => first | assumption | k_get); (case zzk9 => k_handed); k_whole))) | (((with_reducible show wpAny _ _ (call (Value.builtin "len") [Value.ref _]) _ _ _); k_dflt (refine' len_M ?zzN ?zzm ?zzf ?_; (case zzN => k_asm); (case zzm => k_mem); (case zzf => omega); k_whole))) | ((with_reducible show wpAny _ _ (PySem.execs (_ :: _) _) _ _ _); ((with_reducible refine wpAny_execs_cons ?_); (try dsimp only); (try k_fold))) | walk1 | (dsimp only; (first | (((with_reducible show wpAny _ _ (subscriptTail _ _ (Value.ref _) (Value.int _ _)) _ _ _); k_dflt (refine' kda_item (knd := PySem.intKind _ _) ?zzN ?zzm ?zzd ?zzk ?zzv ?_ ?zzhs ?zzhg; (case zzN => k_asm); (case zzm => k_mem); (case zzd => assumption); (case zzk => exact intKind_is _ _ _ _); (case zzv => assumption); (case zzhs => with_unfolding_all rfl); (case zzhg => (intro _; with_unfolding_all rfl)); k_whole))) | ((with_reducible show wpAny _ _ (PySem.setItem (Value.ref _) (Value.int _ _) _) _ _ _); (k_dflt (refine' kda_set (knd := PySem.intKind _ _) ?zzF ?zzN ?zzU ?zzd (intKind_is _ _ _ _) ?zzz ?_; (case zzF => k_asm); (case zzN => k_asm); (case zzU => k_updF); (case zzd => assumption); (case zzz => rw [sizeLine_eq]; omega)); intro h' o' F' N' hd'; (try dsimp only at N'))) | (((with_reducible show wpAny _ _ (call (Value.ref 126) _) _ _ _); k_dflt (refine' Ctr.use ?zzk1 ?zzk2 ?zzk3 ?zzk4 ?zzk5 ?zzkK (came_c _ _ _ _ ?zzq0 _ _ _ _ _ _ _ _ ?zzq1 ?zza0 ?zza1 ?zzb0 ?zzb1 _ _ _ _ _ _ _ _ ?zzq2 ?zzc0 ?zzc1 ?zzd0 ?zzd1) ?zzkd ?zzku ?_; (case zzk1 => k_asm); (case zzk2 => k_asm); (case zzk3 => k_asm); (case zzk4 => k_asm); (case zzk5 => k_asm); (case zzkK => first | exact rfl | assumption); (case zzq0 => assumption); (case zzq1 => k_mem); (case zzq2 => k_mem); (case zza0 => assumption); (case zza1 => assumption); (case zzb0 => assumption); (case zzb1 => assumption); (case zzc0 => assumption); (case zzc1 => assumption); (case zzd0 => assumption); (case zzd1 => assumption); (case zzkd => ktr_room); (case zzku => ktr_units)); intro r9 n9 h9 tk9 F9 N9 e9; obtain ⟨e8, e7⟩ := e9; subst e7; subst e8; (try dsimp only); (try k_fold); (try k_sweep); walk_say "CALL 126")) | ((with_reducible show wpAny _ _ (PySem.setItem (Value.ref _) (Value.int _ _) _) _ _ _); (k_dflt (refine' list_set ?zzF ?zzN ?zzU ?zzh0 ?zzh1 ?zzh2 ?_; (case zzF => k_asm); (case zzN => k_asm); (case zzU => k_upd); (case zzh0 => omega); (case zzh1 => omega); (case zzh2 => omega)); intro h' F' N'; (try dsimp only at N'))) | (((with_reducible show wpAny _ _ (subscriptTail _ _ (Value.ref _) (Value.int _ _)) _ _ _); k_dflt (refine' list_at ?zzN ?zzm ?zzh0 ?zzh1 ?zze ?_ ?zzhs ?zzhg; (case zzN => k_asm); (case zzm => k_mem); (case zze => assumption); (case zzh0 => omega); (case zzh1 => omega); (case zzhs => with_unfolding_all rfl); (case zzhg => (intro _; with_unfolding_all rfl)); k_whole))) | ((with_reducible show wpAny _ _ (PySem.callWith _ (Value.ref _) _ _ _) _ _ _); (k_dflt (refine' callWith_F ?zzk1 ?_; (case zzk1 => exact FnAt.of (by k_asm) (by k_mem)); k_whole))) | ((with_reducible show wpAny _ _ (PySem.getAttr (Value.ref _) _ _) _ _ _); (k_dflt (refine' get_own ?zzk1 ?zzk2 ?zzk3 ?zzk4 ?zzk5 ?zzk6 ?zzk7 ?zzk8 ?zzk9 ?_; (case zzk1 => k_asm); (case zzk2 => k_asm); (case zzk3 => k_inst); (case zzk4 => k_is); (case zzk5 => k_is); (case zzk6 => k_is); (case zzk7 => k_is); (case zzk8 => first | assumption | k_get); (case zzk9 => k_handed); k_whole))) | (((with_reducible show wpAny _ _ (call (Value.builtin "len") [Value.ref _]) _ _ _); k_dflt (refine' len_M ?zzN ?zzm ?zzf ?_; (case zzN => k_asm); (case zzm => k_mem); (case zzf => omega); k_whole))) | ((with_reducible show wpAny _ _ (PySem.execs (_ :: _) _) _ _ _); ((with_reducible refine wpAny_execs_cons ?_); (try dsimp only); (try k_fold))) | walk1)) | (leave1; walk_say "STEP leave1"; try dsimp only)))
              · exact bne_no (b := comeB evs hv1 hv2) (by assumption)
              · (rename News _ _ _ _ => lN9)
                refine' lasts_same (hheld2.mono (fun p hp => by simp only [List.mem_cons, s8 p (p5 p hp), or_true])) hok lN9 ?m1 ?m2 ?hu ?_
                case m1 => k_dflt k_mem
                case m2 => k_dflt k_mem
                case hu => ktr_units
                repeat' (first | (k_unfold; (try dsimp only)) | (k_end; wrow_close) | (((with_reducible show wpAny _ _ (subscriptTail _ _ (Value.ref _) (Value.int _ _)) _ _ _); k_dflt (refine' kda_item (knd := PySem.intKind _ _) ?zzN ?zzm ?zzd ?zzk ?zzv ?_ ?zzhs ?zzhg; (case zzN => k_asm); (case zzm => k_mem); (case zzd => assumption); (case zzk => exact intKind_is _ _ _ _); (case zzv => assumption); (case zzhs => with_unfolding_all rfl); (case zzhg => (intro _; with_unfolding_all rfl)); k_whole))) | ((with_reducible show wpAny _ _ (PySem.setItem (Value.ref _) (Value.int _ _) _) _ _ _); (k_dflt (refine' kda_set (knd := PySem.intKind _ _) ?zzF ?zzN ?zzU ?zzd (intKind_is _ _ _ _) ?zzz ?_; (case zzF => k_asm); (case zzN => k_asm); (case zzU => k_updF); (case zzd => assumption); (case zzz => rw [sizeLine_eq]; omega)); intro h' o' F' N' hd'; (try dsimp only at N'))) | (((with_reducible show wpAny _ _ (call (Value.ref 126) _) _ _ _); k_dflt (refine' Ctr.use ?zzk1 ?zzk2 ?zzk3 ?zzk4 ?zzk5 ?zzkK (came_c _ _ _ _ ?zzq0 _ _ _ _ _ _ _ _ ?zzq1 ?zza0 ?zza1 ?zzb0 ?zzb1 _ _ _ _ _ _ _ _ ?zzq2 ?zzc0 ?zzc1 ?zzd0 ?zzd1) ?zzkd ?zzku ?_; (case zzk1 => k_asm); (case zzk2 => k_asm); (case zzk3 => k_asm); (case zzk4 => k_asm); (case zzk5 => k_asm); (case zzkK => first | exact rfl | assumption); (case zzq0 => assumption); (case zzq1 => k_mem); (case zzq2 => k_mem); (case zza0 => assumption); (case zza1 => assumption); (case zzb0 => assumption); (case zzb1 => assumption); (case zzc0 => assumption); (case zzc1 => assumption); (case zzd0 => assumption); (case zzd1 => assumption); (case zzkd => ktr_room); (case zzku => ktr_units)); intro r9 n9 h9 tk9 F9 N9 e9; obtain ⟨e8, e7⟩ := e9; subst e7; subst e8; (try dsimp only); (try k_fold); (try k_sweep); walk_say "CALL 126")) | ((with_reducible show wpAny _ _ (PySem.setItem (Value.ref _) (Value.int _ _) _) _ _ _); (k_dflt (refine' list_set ?zzF ?zzN ?zzU ?zzh0 ?zzh1 ?zzh2 ?_; (case zzF => k_asm); (case zzN => k_asm); (case zzU => k_upd); (case zzh0 => omega); (case zzh1 => omega); (case zzh2 => omega)); intro h' F' N'; (try dsimp only at N'))) | (((with_reducible show wpAny _ _ (subscriptTail _ _ (Value.ref _) (Value.int _ _)) _ _ _); k_dflt (refine' list_at ?zzN ?zzm ?zzh0 ?zzh1 ?zze ?_ ?zzhs ?zzhg; (case zzN => k_asm); (case zzm => k_mem); (case zze => assumption); (case zzh0 => omega); (case zzh1 => omega); (case zzhs => with_unfolding_all rfl); (case zzhg => (intro _; with_unfolding_all rfl)); k_whole))) | ((with_reducible show wpAny _ _ (PySem.callWith _ (Value.ref _) _ _ _) _ _ _); (k_dflt (refine' callWith_F ?zzk1 ?_; (case zzk1 => exact FnAt.of (by k_asm) (by k_mem)); k_whole))) | ((with_reducible show wpAny _ _ (PySem.getAttr (Value.ref _) _ _) _ _ _); (k_dflt (refine' get_own ?zzk1 ?zzk2 ?zzk3 ?zzk4 ?zzk5 ?zzk6 ?zzk7 ?zzk8 ?zzk9 ?_; (case zzk1 => k_asm); (case zzk2 => k_asm); (case zzk3 => k_inst); (case zzk4 => k_is); (case zzk5 => k_is); (case zzk6 => k_is); (case zzk7 => k_is); (case zzk8 => first | assumption | k_get); (case zzk9 => k_handed); k_whole))) | (((with_reducible show wpAny _ _ (call (Value.builtin "len") [Value.ref _]) _ _ _); k_dflt (refine' len_M ?zzN ?zzm ?zzf ?_; (case zzN => k_asm); (case zzm => k_mem); (case zzf => omega); k_whole))) | ((with_reducible show wpAny _ _ (PySem.execs (_ :: _) _) _ _ _); ((with_reducible refine wpAny_execs_cons ?_); (try dsimp only); (try k_fold))) | walk1 | (dsimp only; (first | (((with_reducible show wpAny _ _ (subscriptTail _ _ (Value.ref _) (Value.int _ _)) _ _ _); k_dflt (refine' kda_item (knd := PySem.intKind _ _) ?zzN ?zzm ?zzd ?zzk ?zzv ?_ ?zzhs ?zzhg; (case zzN => k_asm); (case zzm => k_mem); (case zzd => assumption); (case zzk => exact intKind_is _ _ _ _); (case zzv => assumption); (case zzhs => with_unfolding_all rfl); (case zzhg => (intro _; with_unfolding_all rfl)); k_whole))) | ((with_reducible show wpAny _ _ (PySem.setItem (Value.ref _) (Value.int _ _) _) _ _ _); (k_dflt (refine' kda_set (knd := PySem.intKind _ _) ?zzF ?zzN ?zzU ?zzd (intKind_is _ _ _ _) ?zzz ?_; (case zzF => k_asm); (case zzN => k_asm); (case zzU => k_updF); (case zzd => assumption); (case zzz => rw [sizeLine_eq]; omega)); intro h' o' F' N' hd'; (try dsimp only at N'))) | (((with_reducible show wpAny _ _ (call (Value.ref 126) _) _ _ _); k_dflt (refine' Ctr.use ?zzk1 ?zzk2 ?zzk3 ?zzk4 ?zzk5 ?zzkK (came_c _ _ _ _ ?zzq0 _ _ _ _ _ _ _ _ ?zzq1 ?zza0 ?zza1 ?zzb0 ?zzb1 _ _ _ _ _ _ _ _ ?zzq2 ?zzc0 ?zzc1 ?zzd0 ?zzd1) ?zzkd ?zzku ?_; (case zzk1 => k_asm); (case zzk2 => k_asm); (case zzk3 => k_asm); (case zzk4 => k_asm); (case zzk5 => k_asm); (case zzkK => first | exact rfl | assumption); (case zzq0 => assumption); (case zzq1 => k_mem); (case zzq2 => k_mem); (case zza0 => assumption); (case zza1 => assumption); (case zzb0 => assumption); (case zzb1 => assumption); (case zzc0 => assumption); (case zzc1 => assumption); (case zzd0 => assumption); (case zzd1 => assumption); (case zzkd => ktr_room); (case zzku => ktr_units)); intro r9 n9 h9 tk9 F9 N9 e9; obtain ⟨e8, e7⟩ := e9; subst e7; subst e8; (try dsimp only); (try k_fold); (try k_sweep); walk_say "CALL 126")) | ((with_reducible show wpAny _ _ (PySem.setItem (Value.ref _) (Value.int _ _) _) _ _ _); (k_dflt (refine' list_set ?zzF ?zzN ?zzU ?zzh0 ?zzh1 ?zzh2 ?_; (case zzF => k_asm); (case zzN => k_asm); (case zzU => k_upd); (case zzh0 => omega); (case zzh1 => omega); (case zzh2 => omega)); intro h' F' N'; (try dsimp only at N'))) | (((with_reducible show wpAny _ _ (subscriptTail _ _ (Value.ref _) (Value.int _ _)) _ _ _); k_dflt (refine' list_at ?zzN ?zzm ?zzh0 ?zzh1 ?zze ?_ ?zzhs ?zzhg; (case zzN => k_asm); (case zzm => k_mem); (case zze => assumption); (case zzh0 => omega); (case zzh1 => omega); (case zzhs => with_unfolding_all rfl); (case zzhg => (intro _; with_unfolding_all rfl)); k_whole))) | ((with_reducible show wpAny _ _ (PySem.callWith _ (Value.ref _) _ _ _) _ _ _); (k_dflt (refine' callWith_F ?zzk1 ?_; (case zzk1 => exact FnAt.of (by k_asm) (by k_mem)); k_whole))) | ((with_reducible show wpAny _ _ (PySem.getAttr (Value.ref _) _ _) _ _ _); (k_dflt (refine' get_own ?zzk1 ?zzk2 ?zzk3 ?zzk4 ?zzk5 ?zzk6 ?zzk7 ?zzk8 ?zzk9 ?_; (case zzk1 => k_asm); (case zzk2 => k_asm); (case zzk3 => k_inst); (case zzk4 => k_is); (case zzk5 => k_is); (case zzk6 => k_is); (case zzk7 => k_is); (case zzk8 => first | assumption | k_get); (case zzk9 => k_handed); k_whole))) | (((with_reducible show wpAny _ _ (call (Value.builtin "len") [Value.ref _]) _ _ _); k_dflt (refine' len_M ?zzN ?zzm ?zzf ?_; (case zzN => k_asm); (case zzm => k_mem); (case zzf => omega); k_whole))) | ((with_reducible show wpAny _ _ (PySem.execs (_ :: _) _) _ _ _); ((with_reducible refine wpAny_execs_cons ?_); (try dsimp only); (try k_fold))) | walk1)) | (leave1; walk_say "STEP leave1"; try dsimp only) | fail "no step")
                (rename News _ _ _ _ => lN9)
                refine' wait_turn (r5 := r5) (n6 := n6) (n5 := n5) (by k_asm) lN9 ?_ hd2 (by omega) hheld2 hP2 (p0 _ hch) hown hr5 ?_ ?_ ?_ ?_
                · intro z hz
                  simp at hz
                  simp [hz]
                · simp only [List.mem_cons, w2, or_true]
                · exact List.Mem.head _
                · simp only [List.mem_cons, w1, or_true]
                · intro p hp
                  simp only [List.mem_cons, s8 p hp, or_true]
    case step =>
      rintro i ys nx hi ⟨enx, hys⟩ v I oI C oC D m₂ h4 tk4 E' ⟨ti, ev⟩ hC hx F4 N4 o3 hne3
      subst enx
      subst ev
      have o9 := o3
      simp only [PyProof.Rows.LCg.Off3, and_true] at o9
      repeat' ((fail_if_success (with_reducible show wpAny _ _ (PySem.eval (PySem.Expr.ListComp _ _ _ _) _) _ _ _)); (first | (k_unfold; (try dsimp only)) | (k_end; wrow_close) | (((with_reducible show wpAny _ _ (subscriptTail _ _ (Value.ref _) (Value.int _ _)) _ _ _); k_dflt (refine' kda_item (knd := PySem.intKind _ _) ?zzN ?zzm ?zzd ?zzk ?zzv ?_ ?zzhs ?zzhg; (case zzN => k_asm); (case zzm => k_mem); (case zzd => assumption); (case zzk => exact intKind_is _ _ _ _); (case zzv => assumption); (case zzhs => with_unfolding_all rfl); (case zzhg => (intro _; with_unfolding_all rfl)); k_whole))) | ((with_reducible show wpAny _ _ (PySem.setItem (Value.ref _) (Value.int _ _) _) _ _ _); (k_dflt (refine' kda_set (knd := PySem.intKind _ _) ?zzF ?zzN ?zzU ?zzd (intKind_is _ _ _ _) ?zzz ?_; (case zzF => k_asm); (case zzN => k_asm); (case zzU => k_updF); (case zzd => assumption); (case zzz => rw [sizeLine_eq]; omega)); intro h' o' F' N' hd'; (try dsimp only at N'))) | (((with_reducible show wpAny _ _ (call (Value.ref 126) _) _ _ _); k_dflt (refine' Ctr.use ?zzk1 ?zzk2 ?zzk3 ?zzk4 ?zzk5 ?zzkK (came_c _ _ _ _ ?zzq0 _ _ _ _ _ _ _ _ ?zzq1 ?zza0 ?zza1 ?zzb0 ?zzb1 _ _ _ _ _ _ _ _ ?zzq2 ?zzc0 ?zzc1 ?zzd0 ?zzd1) ?zzkd ?zzku ?_; (case zzk1 => k_asm); (case zzk2 => k_asm); (case zzk3 => k_asm); (case zzk4 => k_asm); (case zzk5 => k_asm); (case zzkK => first | exact rfl | assumption); (case zzq0 => assumption); (case zzq1 => k_mem); (case zzq2 => k_mem); (case zza0 => assumption); (case zza1 => assumption); (case zzb0 => assumption); (case zzb1 => assumption); (case zzc0 => assumption); (case zzc1 => assumption); (case zzd0 => assumption); (case zzd1 => assumption); (case zzkd => ktr_room); (case zzku => ktr_units)); intro r9 n9 h9 tk9 F9 N9 e9; obtain ⟨e8, e7⟩ := e9; subst e7; subst e8; (try dsimp only); (try k_fold); (try k_sweep); walk_say "CALL 126")) | ((with_reducible show wpAny _ _ (PySem.setItem (Value.ref _) (Value.int _ _) _) _ _ _); (k_dflt (refine' list_set ?zzF ?zzN ?zzU ?zzh0 ?zzh1 ?zzh2 ?_; (case zzF => k_asm); (case zzN => k_asm); (case zzU => k_upd); (case zzh0 => omega); (case zzh1 => omega); (case zzh2 => omega)); intro h' F' N'; (try dsimp only at N'))) | (((with_reducible show wpAny _ _ (subscriptTail _ _ (Value.ref _) (Value.int _ _)) _ _ _); k_dflt (refine' list_at ?zzN ?zzm ?zzh0 ?zzh1 ?zze ?_ ?zzhs ?zzhg; (case zzN => k_asm); (case zzm => k_mem); (case zze => assumption); (case zzh0 => omega); (case zzh1 => omega); (case zzhs => with_unfolding_all rfl); (case zzhg => (intro _; with_unfolding_all rfl)); k_whole))) | ((with_reducible show wpAny _ _ (PySem.callWith _ (Value.ref _) _ _ _) _ _ _); (k_dflt (refine' callWith_F ?zzk1 ?_; (case zzk1 => exact FnAt.of (by k_asm) (by k_mem)); k_whole))) | ((with_reducible show wpAny _ _ (PySem.getAttr (Value.ref _) _ _) _ _ _); (k_dflt (refine' get_own ?zzk1 ?zzk2 ?zzk3 ?zzk4 ?zzk5 ?zzk6 ?zzk7 ?zzk8 ?zzk9 ?_; (case zzk1 => k_asm); (case zzk2 => k_asm); (case zzk3 => k_inst); (case zzk4 => k_is); (case zzk5 => k_is); (case zzk6 => k_is); (case zzk7 => k_is); (case zzk8 => first | assumption | k_get); (case zzk9 => k_handed); k_whole))) | (((with_reducible show wpAny _ _ (call (Value.builtin "len") [Value.ref _]) _ _ _); k_dflt (refine' len_M ?zzN ?zzm ?zzf ?_; (case zzN => k_asm); (case zzm => k_mem); (case zzf => omega); k_whole))) | ((with_reducible show wpAny _ _ (PySem.execs (_ :: _) _) _ _ _); ((with_reducible refine wpAny_execs_cons ?_); (try dsimp only); (try k_fold))) | walk1 | (dsimp only; (first | (((with_reducible show wpAny _ _ (subscriptTail _ _ (Value.ref _) (Value.int _ _)) _ _ _); k_dflt (refine' kda_item (knd := PySem.intKind _ _) ?zzN ?zzm ?zzd ?zzk ?zzv ?_ ?zzhs ?zzhg; (case zzN => k_asm); (case zzm => k_mem); (case zzd => assumption); (case zzk => exact intKind_is _ _ _ _); (case zzv => assumption); (case zzhs => with_unfolding_all rfl); (case zzhg => (intro _; with_unfolding_all rfl)); k_whole))) | ((with_reducible show wpAny _ _ (PySem.setItem (Value.ref _) (Value.int _ _) _) _ _ _); (k_dflt (refine' kda_set (knd := PySem.intKind _ _) ?zzF ?zzN ?zzU ?zzd (intKind_is _ _ _ _) ?zzz ?_; (case zzF => k_asm); (case zzN => k_asm); (case zzU => k_updF); (case zzd => assumption); (case zzz => rw [sizeLine_eq]; omega)); intro h' o' F' N' hd'; (try dsimp only at N'))) | (((with_reducible show wpAny _ _ (call (Value.ref 126) _) _ _ _); k_dflt (refine' Ctr.use ?zzk1 ?zzk2 ?zzk3 ?zzk4 ?zzk5 ?zzkK (came_c _ _ _ _ ?zzq0 _ _ _ _ _ _ _ _ ?zzq1 ?zza0 ?zza1 ?zzb0 ?zzb1 _ _ _ _ _ _ _ _ ?zzq2 ?zzc0 ?zzc1 ?zzd0 ?zzd1) ?zzkd ?zzku ?_; (case zzk1 => k_asm); (case zzk2 => k_asm); (case zzk3 => k_asm); (case zzk4 => k_asm); (case zzk5 => k_asm); (case zzkK => first | exact rfl | assumption); (case zzq0 => assumption); (case zzq1 => k_mem); (case zzq2 => k_mem); (case zza0 => assumption); (case zza1 => assumption); (case zzb0 => assumption); (case zzb1 => assumption); (case zzc0 => assumption); (case zzc1 => assumption); (case zzd0 => assumption); (case zzd1 => assumption); (case zzkd => ktr_room); (case zzku => ktr_units)); intro r9 n9 h9 tk9 F9 N9 e9; obtain ⟨e8, e7⟩ := e9; subst e7; subst e8; (try dsimp only); (try k_fold); (try k_sweep); walk_say "CALL 126")) | ((with_reducible show wpAny _ _ (PySem.setItem (Value.ref _) (Value.int _ _) _) _ _ _); (k_dflt (refine' list_set ?zzF ?zzN ?zzU ?zzh0 ?zzh1 ?zzh2 ?_; (case zzF => k_asm); (case zzN => k_asm); (case zzU => k_upd); (case zzh0 => omega); (case zzh1 => omega); (case zzh2 => omega)); intro h' F' N'; (try dsimp only at N'))) | (((with_reducible show wpAny _ _ (subscriptTail _ _ (Value.ref _) (Value.int _ _)) _ _ _); k_dflt (refine' list_at ?zzN ?zzm ?zzh0 ?zzh1 ?zze ?_ ?zzhs ?zzhg; (case zzN => k_asm); (case zzm => k_mem); (case zze => assumption); (case zzh0 => omega); (case zzh1 => omega); (case zzhs => with_unfolding_all rfl); (case zzhg => (intro _; with_unfolding_all rfl)); k_whole))) | ((with_reducible show wpAny _ _ (PySem.callWith _ (Value.ref _) _ _ _) _ _ _); (k_dflt (refine' callWith_F ?zzk1 ?_; (case zzk1 => exact FnAt.of (by k_asm) (by k_mem)); k_whole))) | ((with_reducible show wpAny _ _ (PySem.getAttr (Value.ref _) _ _) _ _ _); (k_dflt (refine' get_own ?zzk1 ?zzk2 ?zzk3 ?zzk4 ?zzk5 ?zzk6 ?zzk7 ?zzk8 ?zzk9 ?_; (case zzk1 => k_asm); (case zzk2 => k_asm); (case zzk3 => k_inst); (case zzk4 => k_is); (case zzk5 => k_is); (case zzk6 => k_is); (case zzk7 => k_is); (case zzk8 => first | assumption | k_get); (case zzk9 => k_handed); k_whole))) | (((with_reducible show wpAny _ _ (call (Value.builtin "len") [Value.ref _]) _ _ _); k_dflt (refine' len_M ?zzN ?zzm ?zzf ?_; (case zzN => k_asm); (case zzm => k_mem); (case zzf => omega); k_whole))) | ((with_reducible show wpAny _ _ (PySem.execs (_ :: _) _) _ _ _); ((with_reducible refine wpAny_execs_cons ?_); (try dsimp only); (try k_fold))) | walk1)) | (leave1; walk_say "STEP leave1"; try dsimp only)))
      walk_at "eval ListComp"
      (rename News _ _ _ _ => lN2)
      refine' PyProof.Rows.LCp.SrcLP.ledger (ax := evl) (k := nE) (its := vsE.toArray) ?p1 ?p2 lN2 ?p4 ?p5 ?_
      case p1 => rfl
      case p2 => k_asm
      case p4 => k_dflt k_mem
      case p5 => exact fitsM (n := 100) (by omega) (by decide)
      intro g5
      refine' restP_all (fun i ys nx => nx = _ ∧ IntsAre ys ((evs.take i).map (·.key))) ?fin2 ?step2 vsE.toArray.size 0 [] _ (Nat.zero_add _) ⟨rfl, .nil⟩
      case step2 =>
        rintro i2 ys2 nx2 hi2 ⟨enx, hys2⟩ v hPv
        subst enx
        obtain ⟨e, he, hDe⟩ := evs_get (i := i2) hD (by simpa using hPv)
        obtain ⟨x9, y9, t1, t2, t3, t4, n3, n4, rfl, hx9, hy9⟩ := ev_open hDe
        refine ⟨x9, _, _, _, _, rfl, (by k_mem), rfl, rfl, ?_⟩
        intro I2 oI2 C2 oC2 D2 m₃ h5 tk5 E5 hC2 hx2 hx3 F5 N5 o5 hne5
        have o6 := o5
        simp only [PyProof.Rows.LCg.Off3, and_true] at o6
        repeat' (first | (k_unfold; (try dsimp only)) | (k_end; wrow_close) | (((with_reducible show wpAny _ _ (subscriptTail _ _ (Value.ref _) (Value.int _ _)) _ _ _); k_dflt (refine' kda_item (knd := PySem.intKind _ _) ?zzN ?zzm ?zzd ?zzk ?zzv ?_ ?zzhs ?zzhg; (case zzN => k_asm); (case zzm => k_mem); (case zzd => assumption); (case zzk => exact intKind_is _ _ _ _); (case zzv => assumption); (case zzhs => with_unfolding_all rfl); (case zzhg => (intro _; with_unfolding_all rfl)); k_whole))) | ((with_reducible show wpAny _ _ (PySem.setItem (Value.ref _) (Value.int _ _) _) _ _ _); (k_dflt (refine' kda_set (knd := PySem.intKind _ _) ?zzF ?zzN ?zzU ?zzd (intKind_is _ _ _ _) ?zzz ?_; (case zzF => k_asm); (case zzN => k_asm); (case zzU => k_updF); (case zzd => assumption); (case zzz => rw [sizeLine_eq]; omega)); intro h' o' F' N' hd'; (try dsimp only at N'))) | (((with_reducible show wpAny _ _ (call (Value.ref 126) _) _ _ _); k_dflt (refine' Ctr.use ?zzk1 ?zzk2 ?zzk3 ?zzk4 ?zzk5 ?zzkK (came_c _ _ _ _ ?zzq0 _ _ _ _ _ _ _ _ ?zzq1 ?zza0 ?zza1 ?zzb0 ?zzb1 _ _ _ _ _ _ _ _ ?zzq2 ?zzc0 ?zzc1 ?zzd0 ?zzd1) ?zzkd ?zzku ?_; (case zzk1 => k_asm); (case zzk2 => k_asm); (case zzk3 => k_asm); (case zzk4 => k_asm); (case zzk5 => k_asm); (case zzkK => first | exact rfl | assumption); (case zzq0 => assumption); (case zzq1 => k_mem); (case zzq2 => k_mem); (case zza0 => assumption); (case zza1 => assumption); (case zzb0 => assumption); (case zzb1 => assumption); (case zzc0 => assumption); (case zzc1 => assumption); (case zzd0 => assumption); (case zzd1 => assumption); (case zzkd => ktr_room); (case zzku => ktr_units)); intro r9 n9 h9 tk9 F9 N9 e9; obtain ⟨e8, e7⟩ := e9; subst e7; subst e8; (try dsimp only); (try k_fold); (try k_sweep); walk_say "CALL 126")) | ((with_reducible show wpAny _ _ (PySem.setItem (Value.ref _) (Value.int _ _) _) _ _ _); (k_dflt (refine' list_set ?zzF ?zzN ?zzU ?zzh0 ?zzh1 ?zzh2 ?_; (case zzF => k_asm); (case zzN => k_asm); (case zzU => k_upd); (case zzh0 => omega); (case zzh1 => omega); (case zzh2 => omega)); intro h' F' N'; (try dsimp only at N'))) | (((with_reducible show wpAny _ _ (subscriptTail _ _ (Value.ref _) (Value.int _ _)) _ _ _); k_dflt (refine' list_at ?zzN ?zzm ?zzh0 ?zzh1 ?zze ?_ ?zzhs ?zzhg; (case zzN => k_asm); (case zzm => k_mem); (case zze => assumption); (case zzh0 => omega); (case zzh1 => omega); (case zzhs => with_unfolding_all rfl); (case zzhg => (intro _; with_unfolding_all rfl)); k_whole))) | ((with_reducible show wpAny _ _ (PySem.callWith _ (Value.ref _) _ _ _) _ _ _); (k_dflt (refine' callWith_F ?zzk1 ?_; (case zzk1 => exact FnAt.of (by k_asm) (by k_mem)); k_whole))) | ((with_reducible show wpAny _ _ (PySem.getAttr (Value.ref _) _ _) _ _ _); (k_dflt (refine' get_own ?zzk1 ?zzk2 ?zzk3 ?zzk4 ?zzk5 ?zzk6 ?zzk7 ?zzk8 ?zzk9 ?_; (case zzk1 => k_asm); (case zzk2 => k_asm); (case zzk3 => k_inst); (case zzk4 => k_is); (case zzk5 => k_is); (case zzk6 => k_is); (case zzk7 => k_is); (case zzk8 => first | assumption | k_get); (case zzk9 => k_handed); k_whole))) | (((with_reducible show wpAny _ _ (call (Value.builtin "len") [Value.ref _]) _ _ _); k_dflt (refine' len_M ?zzN ?zzm ?zzf ?_; (case zzN => k_asm); (case zzm => k_mem); (case zzf => omega); k_whole))) | ((with_reducible show wpAny _ _ (PySem.execs (_ :: _) _) _ _ _); ((with_reducible refine wpAny_execs_cons ?_); (try dsimp only); (try k_fold))) | walk1 | (dsimp only; (first | (((with_reducible show wpAny _ _ (subscriptTail _ _ (Value.ref _) (Value.int _ _)) _ _ _); k_dflt (refine' kda_item (knd := PySem.intKind _ _) ?zzN ?zzm ?zzd ?zzk ?zzv ?_ ?zzhs ?zzhg; (case zzN => k_asm); (case zzm => k_mem); (case zzd => assumption); (case zzk => exact intKind_is _ _ _ _); (case zzv => assumption); (case zzhs => with_unfolding_all rfl); (case zzhg => (intro _; with_unfolding_all rfl)); k_whole))) | ((with_reducible show wpAny _ _ (PySem.setItem (Value.ref _) (Value.int _ _) _) _ _ _); (k_dflt (refine' kda_set (knd := PySem.intKind _ _) ?zzF ?zzN ?zzU ?zzd (intKind_is _ _ _ _) ?zzz ?_; (case zzF => k_asm); (case zzN => k_asm); (case zzU => k_updF); (case zzd => assumption); (case zzz => rw [sizeLine_eq]; omega)); intro h' o' F' N' hd'; (try dsimp only at N'))) | (((with_reducible show wpAny _ _ (call (Value.ref 126) _) _ _ _); k_dflt (refine' Ctr.use ?zzk1 ?zzk2 ?zzk3 ?zzk4 ?zzk5 ?zzkK (came_c _ _ _ _ ?zzq0 _ _ _ _ _ _ _ _ ?zzq1 ?zza0 ?zza1 ?zzb0 ?zzb1 _ _ _ _ _ _ _ _ ?zzq2 ?zzc0 ?zzc1 ?zzd0 ?zzd1) ?zzkd ?zzku ?_; (case zzk1 => k_asm); (case zzk2 => k_asm); (case zzk3 => k_asm); (case zzk4 => k_asm); (case zzk5 => k_asm); (case zzkK => first | exact rfl | assumption); (case zzq0 => assumption); (case zzq1 => k_mem); (case zzq2 => k_mem); (case zza0 => assumption); (case zza1 => assumption); (case zzb0 => assumption); (case zzb1 => assumption); (case zzc0 => assumption); (case zzc1 => assumption); (case zzd0 => assumption); (case zzd1 => assumption); (case zzkd => ktr_room); (case zzku => ktr_units)); intro r9 n9 h9 tk9 F9 N9 e9; obtain ⟨e8, e7⟩ := e9; subst e7; subst e8; (try dsimp only); (try k_fold); (try k_sweep); walk_say "CALL 126")) | ((with_reducible show wpAny _ _ (PySem.setItem (Value.ref _) (Value.int _ _) _) _ _ _); (k_dflt (refine' list_set ?zzF ?zzN ?zzU ?zzh0 ?zzh1 ?zzh2 ?_; (case zzF => k_asm); (case zzN => k_asm); (case zzU => k_upd); (case zzh0 => omega); (case zzh1 => omega); (case zzh2 => omega)); intro h' F' N'; (try dsimp only at N'))) | (((with_reducible show wpAny _ _ (subscriptTail _ _ (Value.ref _) (Value.int _ _)) _ _ _); k_dflt (refine' list_at ?zzN ?zzm ?zzh0 ?zzh1 ?zze ?_ ?zzhs ?zzhg; (case zzN => k_asm); (case zzm => k_mem); (case zze => assumption); (case zzh0 => omega); (case zzh1 => omega); (case zzhs => with_unfolding_all rfl); (case zzhg => (intro _; with_unfolding_all rfl)); k_whole))) | ((with_reducible show wpAny _ _ (PySem.callWith _ (Value.ref _) _ _ _) _ _ _); (k_dflt (refine' callWith_F ?zzk1 ?_; (case zzk1 => exact FnAt.of (by k_asm) (by k_mem)); k_whole))) | ((with_reducible show wpAny _ _ (PySem.getAttr (Value.ref _) _ _) _ _ _); (k_dflt (refine' get_own ?zzk1 ?zzk2 ?zzk3 ?zzk4 ?zzk5 ?zzk6 ?zzk7 ?zzk8 ?zzk9 ?_; (case zzk1 => k_asm); (case zzk2 => k_asm); (case zzk3 => k_inst); (case zzk4 => k_is); (case zzk5 => k_is); (case zzk6 => k_is); (case zzk7 => k_is); (case zzk8 => first | assumption | k_get); (case zzk9 => k_handed); k_whole))) | (((with_reducible show wpAny _ _ (call (Value.builtin "len") [Value.ref _]) _ _ _); k_dflt (refine' len_M ?zzN ?zzm ?zzf ?_; (case zzN => k_asm); (case zzm => k_mem); (case zzf => omega); k_whole))) | ((with_reducible show wpAny _ _ (PySem.execs (_ :: _) _) _ _ _); ((with_reducible refine wpAny_execs_cons ?_); (try dsimp only); (try k_fold))) | walk1)) | (leave1; walk_say "STEP leave1"; try dsimp only) | fail "no step")
        (rename News _ _ _ _ => lN5)
        refine' PyProof.Rows.LCg.CompEnd.intro (by k_asm) lN5 _ (fun p hp => hp) o5 (.inr ⟨listOf vsE.toArray nE, by simp only [List.mem_cons, hevl, or_true], rfl, nE, rfl⟩) ⟨rfl, ?_⟩
        rw [List.take_add_one, he, List.map_append]
        exact hys2.append (.cons _ _ .nil)
      case fin2 =>
        rintro ys2 nx2 ⟨enx, hys2⟩
        subst enx
        rw [show List.take vsE.toArray.size evs = evs by rw [List.size_toArray, hlE, List.take_length]] at hys2
        repeat' (first | (k_unfold; (try dsimp only)) | (k_end; wrow_close) | (((with_reducible show wpAny _ _ (subscriptTail _ _ (Value.ref _) (Value.int _ _)) _ _ _); k_dflt (refine' kda_item (knd := PySem.intKind _ _) ?zzN ?zzm ?zzd ?zzk ?zzv ?_ ?zzhs ?zzhg; (case zzN => k_asm); (case zzm => k_mem); (case zzd => assumption); (case zzk => exact intKind_is _ _ _ _); (case zzv => assumption); (case zzhs => with_unfolding_all rfl); (case zzhg => (intro _; with_unfolding_all rfl)); k_whole))) | ((with_reducible show wpAny _ _ (PySem.setItem (Value.ref _) (Value.int _ _) _) _ _ _); (k_dflt (refine' kda_set (knd := PySem.intKind _ _) ?zzF ?zzN ?zzU ?zzd (intKind_is _ _ _ _) ?zzz ?_; (case zzF => k_asm); (case zzN => k_asm); (case zzU => k_updF); (case zzd => assumption); (case zzz => rw [sizeLine_eq]; omega)); intro h' o' F' N' hd'; (try dsimp only at N'))) | (((with_reducible show wpAny _ _ (call (Value.ref 126) _) _ _ _); k_dflt (refine' Ctr.use ?zzk1 ?zzk2 ?zzk3 ?zzk4 ?zzk5 ?zzkK (came_c _ _ _ _ ?zzq0 _ _ _ _ _ _ _ _ ?zzq1 ?zza0 ?zza1 ?zzb0 ?zzb1 _ _ _ _ _ _ _ _ ?zzq2 ?zzc0 ?zzc1 ?zzd0 ?zzd1) ?zzkd ?zzku ?_; (case zzk1 => k_asm); (case zzk2 => k_asm); (case zzk3 => k_asm); (case zzk4 => k_asm); (case zzk5 => k_asm); (case zzkK => first | exact rfl | assumption); (case zzq0 => assumption); (case zzq1 => k_mem); (case zzq2 => k_mem); (case zza0 => assumption); (case zza1 => assumption); (case zzb0 => assumption); (case zzb1 => assumption); (case zzc0 => assumption); (case zzc1 => assumption); (case zzd0 => assumption); (case zzd1 => assumption); (case zzkd => ktr_room); (case zzku => ktr_units)); intro r9 n9 h9 tk9 F9 N9 e9; obtain ⟨e8, e7⟩ := e9; subst e7; subst e8; (try dsimp only); (try k_fold); (try k_sweep); walk_say "CALL 126")) | ((with_reducible show wpAny _ _ (PySem.setItem (Value.ref _) (Value.int _ _) _) _ _ _); (k_dflt (refine' list_set ?zzF ?zzN ?zzU ?zzh0 ?zzh1 ?zzh2 ?_; (case zzF => k_asm); (case zzN => k_asm); (case zzU => k_upd); (case zzh0 => omega); (case zzh1 => omega); (case zzh2 => omega)); intro h' F' N'; (try dsimp only at N'))) | (((with_reducible show wpAny _ _ (subscriptTail _ _ (Value.ref _) (Value.int _ _)) _ _ _); k_dflt (refine' list_at ?zzN ?zzm ?zzh0 ?zzh1 ?zze ?_ ?zzhs ?zzhg; (case zzN => k_asm); (case zzm => k_mem); (case zze => assumption); (case zzh0 => omega); (case zzh1 => omega); (case zzhs => with_unfolding_all rfl); (case zzhg => (intro _; with_unfolding_all rfl)); k_whole))) | ((with_reducible show wpAny _ _ (PySem.callWith _ (Value.ref _) _ _ _) _ _ _); (k_dflt (refine' callWith_F ?zzk1 ?_; (case zzk1 => exact FnAt.of (by k_asm) (by k_mem)); k_whole))) | ((with_reducible show wpAny _ _ (PySem.getAttr (Value.ref _) _ _) _ _ _); (k_dflt (refine' get_own ?zzk1 ?zzk2 ?zzk3 ?zzk4 ?zzk5 ?zzk6 ?zzk7 ?zzk8 ?zzk9 ?_; (case zzk1 => k_asm); (case zzk2 => k_asm); (case zzk3 => k_inst); (case zzk4 => k_is); (case zzk5 => k_is); (case zzk6 => k_is); (case zzk7 => k_is); (case zzk8 => first | assumption | k_get); (case zzk9 => k_handed); k_whole))) | (((with_reducible show wpAny _ _ (call (Value.builtin "len") [Value.ref _]) _ _ _); k_dflt (refine' len_M ?zzN ?zzm ?zzf ?_; (case zzN => k_asm); (case zzm => k_mem); (case zzf => omega); k_whole))) | ((with_reducible show wpAny _ _ (PySem.execs (_ :: _) _) _ _ _); ((with_reducible refine wpAny_execs_cons ?_); (try dsimp only); (try k_fold))) | walk1 | (dsimp only; (first | (((with_reducible show wpAny _ _ (subscriptTail _ _ (Value.ref _) (Value.int _ _)) _ _ _); k_dflt (refine' kda_item (knd := PySem.intKind _ _) ?zzN ?zzm ?zzd ?zzk ?zzv ?_ ?zzhs ?zzhg; (case zzN => k_asm); (case zzm => k_mem); (case zzd => assumption); (case zzk => exact intKind_is _ _ _ _); (case zzv => assumption); (case zzhs => with_unfolding_all rfl); (case zzhg => (intro _; with_unfolding_all rfl)); k_whole))) | ((with_reducible show wpAny _ _ (PySem.setItem (Value.ref _) (Value.int _ _) _) _ _ _); (k_dflt (refine' kda_set (knd := PySem.intKind _ _) ?zzF ?zzN ?zzU ?zzd (intKind_is _ _ _ _) ?zzz ?_; (case zzF => k_asm); (case zzN => k_asm); (case zzU => k_updF); (case zzd => assumption); (case zzz => rw [sizeLine_eq]; omega)); intro h' o' F' N' hd'; (try dsimp only at N'))) | (((with_reducible show wpAny _ _ (call (Value.ref 126) _) _ _ _); k_dflt (refine' Ctr.use ?zzk1 ?zzk2 ?zzk3 ?zzk4 ?zzk5 ?zzkK (came_c _ _ _ _ ?zzq0 _ _ _ _ _ _ _ _ ?zzq1 ?zza0 ?zza1 ?zzb0 ?zzb1 _ _ _ _ _ _ _ _ ?zzq2 ?zzc0 ?zzc1 ?zzd0 ?zzd1) ?zzkd ?zzku ?_; (case zzk1 => k_asm); (case zzk2 => k_asm); (case zzk3 => k_asm); (case zzk4 => k_asm); (case zzk5 => k_asm); (case zzkK => first | exact rfl | assumption); (case zzq0 => assumption); (case zzq1 => k_mem); (case zzq2 => k_mem); (case zza0 => assumption); (case zza1 => assumption); (case zzb0 => assumption); (case zzb1 => assumption); (case zzc0 => assumption); (case zzc1 => assumption); (case zzd0 => assumption); (case zzd1 => assumption); (case zzkd => ktr_room); (case zzku => ktr_units)); intro r9 n9 h9 tk9 F9 N9 e9; obtain ⟨e8, e7⟩ := e9; subst e7; subst e8; (try dsimp only); (try k_fold); (try k_sweep); walk_say "CALL 126")) | ((with_reducible show wpAny _ _ (PySem.setItem (Value.ref _) (Value.int _ _) _) _ _ _); (k_dflt (refine' list_set ?zzF ?zzN ?zzU ?zzh0 ?zzh1 ?zzh2 ?_; (case zzF => k_asm); (case zzN => k_asm); (case zzU => k_upd); (case zzh0 => omega); (case zzh1 => omega); (case zzh2 => omega)); intro h' F' N'; (try dsimp only at N'))) | (((with_reducible show wpAny _ _ (subscriptTail _ _ (Value.ref _) (Value.int _ _)) _ _ _); k_dflt (refine' list_at ?zzN ?zzm ?zzh0 ?zzh1 ?zze ?_ ?zzhs ?zzhg; (case zzN => k_asm); (case zzm => k_mem); (case zze => assumption); (case zzh0 => omega); (case zzh1 => omega); (case zzhs => with_unfolding_all rfl); (case zzhg => (intro _; with_unfolding_all rfl)); k_whole))) | ((with_reducible show wpAny _ _ (PySem.callWith _ (Value.ref _) _ _ _) _ _ _); (k_dflt (refine' callWith_F ?zzk1 ?_; (case zzk1 => exact FnAt.of (by k_asm) (by k_mem)); k_whole))) | ((with_reducible show wpAny _ _ (PySem.getAttr (Value.ref _) _ _) _ _ _); (k_dflt (refine' get_own ?zzk1 ?zzk2 ?zzk3 ?zzk4 ?zzk5 ?zzk6 ?zzk7 ?zzk8 ?zzk9 ?_; (case zzk1 => k_asm); (case zzk2 => k_asm); (case zzk3 => k_inst); (case zzk4 => k_is); (case zzk5 => k_is); (case zzk6 => k_is); (case zzk7 => k_is); (case zzk8 => first | assumption | k_get); (case zzk9 => k_handed); k_whole))) | (((with_reducible show wpAny _ _ (call (Value.builtin "len") [Value.ref _]) _ _ _); k_dflt (refine' len_M ?zzN ?zzm ?zzf ?_; (case zzN => k_asm); (case zzm => k_mem); (case zzf => omega); k_whole))) | ((with_reducible show wpAny _ _ (PySem.execs (_ :: _) _) _ _ _); ((with_reducible refine wpAny_execs_cons ?_); (try dsimp only); (try k_fold))) | walk1)) | (leave1; walk_say "STEP leave1"; try dsimp only) | fail "no step")
        · (rename News _ _ _ _ => lN5)
          refine' PyProof.Rows.LCg.CompEnd.intro (by k_asm) lN5 _ (fun p hp => List.Mem.tail _ hp) o3 trivial ⟨rfl, ?_⟩
          rw [keyL_yes (by assumption)]
          exact hys.append (.cons _ _ .nil)
        · (rename News _ _ _ _ => lN5)
          refine' PyProof.Rows.LCg.CompEnd.intro (by k_asm) lN5 _ (fun p hp => List.Mem.tail _ hp) o3 trivial ⟨rfl, ?_⟩
          rw [keyL_no (by assumption)]
          exact hys
end
section
open PySem PySem.W PyProof.Rows PySem.Calls PyProof.V
theorem freshCome2 : True := by
  w_top off
  trivial
set_option maxRecDepth 100000 in
set_option maxHeartbeats 8000000 in
theorem wf_c (w : World) (mx th dt hl sl wt kl ex x : Addr) (ho : Obj) (k1 : List (Int × Value)) (es : List DictEntry) (nT n1 n2 n3 : Nat) (tw u1 u2 u3 t1 t2 t3 : Tok) (k wd i1 i2 i3 : Int) (rest : Led)
    (hM : Mach w mx hl sl rest) (hth : (th, instObj 94 dt) ∈ rest) (hdt : (dt, dictOf es nT) ∈ rest) (hw : getL "wait" es = some (some (Value.ref wt))) (hwt : (wt, tupOf [.str "waitfor" tw, .ref kl, .ref ex] n1) ∈ rest)
    (hex : (ex, tupOf [.str "sig" u1, .int wd u2, .int k u3] n2) ∈ rest) (hho : (hl, ho) ∈ rest) (hd0 : ho.IsDictOf (intKind prg w) k1) (hv : valueAt k1 k = some (.ref x)) (hx : (x, vecO i1 i2 i3 t1 t2 t3 n3) ∈ rest) (w0 : 1 ≤ i1) (w1 : i1 ≤ 3) (a0 : 0 ≤ i2) (a1 : i2 < 8) (b0 : 0 ≤ i3) (b1 : i3 < 8) :
    Ctr w 70 [.ref mx, .ref th] 8 256 rest (fun r news' => news' = rest ∧ ∃ b, r = .bool b ∧ (b = true ↔ Builtin.bitAnd i2 (Builtin.bitXor i3 (1 * 2 ^ i1.toNat - 1)) ≠ 0)) := by
    obtain ⟨dx, esM, nM, f1, f2, fd1, fd2, oc1, oc2, od1, od2, sl1, sl2, m1, m2, m3, m4, m5, m6, hF, hS⟩ := hM
    intro p loose mean mg mb dp un gd cn cs a ccd cl outer A₀ base h₀ L m s Q E B F X N T hk hd hu hret
    have hM := kdMark
    refine wpAny_call ?_
    k_dflt ktr_enter
    repeat' (first | (k_unfold; (try dsimp only)) | (k_end; wrow_close) | (((with_reducible show wpAny _ _ (call (Value.ref 35) _) _ _ _); k_dflt (refine' Ctr.use ?zzk1 ?zzk2 ?zzk3 ?zzk4 ?zzk5 ?zzkK (truth_c _ _ _ _ _ _ _ _ _ _ ?zzq1 ?zzw0 ?zzw1 ?zza0 ?zza1 ?zzb0 ?zzb1) ?zzkd ?zzku ?_; (case zzk1 => k_asm); (case zzk2 => k_asm); (case zzk3 => k_asm); (case zzk4 => k_asm); (case zzk5 => k_asm); (case zzkK => first | exact rfl | assumption); (case zzq1 => k_mem); (case zzw0 => assumption); (case zzw1 => assumption); (case zza0 => assumption); (case zza1 => assumption); (case zzb0 => assumption); (case zzb1 => assumption); (case zzkd => ktr_room); (case zzku => ktr_units)); intro r9 n9 h9 tk9 F9 N9 e9; obtain ⟨e8, v8, t8, e7, e6⟩ := e9; subst e7; subst e8; (try dsimp only); (try k_fold); (try k_sweep); walk_say "CALL 35")) | (((with_reducible show wpAny _ _ (call (Value.ref _) _) _ _ _); k_dflt (refine' Ctr.use ?zzk1 ?zzk2 ?zzk3 ?zzk4 ?zzk5 ?zzkK (FoundS.use ?zzq0 ?zzq1 ?zzq2 ?zzq3 ?zzq4 ?zzq5) ?zzkd ?zzku ?_; (case zzk1 => k_asm); (case zzk2 => k_asm); (case zzk3 => k_asm); (case zzk4 => k_asm); (case zzk5 => k_asm); (case zzkK => first | exact rfl | assumption); (case zzq0 => assumption); (case zzq2 => k_mem); (case zzq4 => k_mem); (case zzq3 => assumption); (case zzq5 => assumption); (case zzq1 => (intro p9 hp9; repeat (first | exact hp9 | refine List.Mem.tail _ ?_))); (case zzkd => ktr_room); (case zzku => ktr_units)); intro r9 n9 h9 tk9 F9 N9 e9; obtain ⟨e8, e7⟩ := e9; subst e8; subst e7; (try dsimp only); (try k_fold); (try k_sweep); walk_say "CALL FOUND")) | ((with_reducible show wpAny _ _ (PySem.callWith _ (Value.ref _) _ _ _) _ _ _); (k_dflt (refine' callWith_F ?zzk1 ?_; (case zzk1 => exact FnAt.of (by k_asm) (by k_mem)); k_whole))) | ((with_reducible show wpAny _ _ (PySem.getAttr (Value.ref _) _ _) _ _ _); (k_dflt (refine' get_own ?zzk1 ?zzk2 ?zzk3 ?zzk4 ?zzk5 ?zzk6 ?zzk7 ?zzk8 ?zzk9 ?_; (case zzk1 => k_asm); (case zzk2 => k_asm); (case zzk3 => k_inst); (case zzk4 => k_is); (case zzk5 => k_is); (case zzk6 => k_is); (case zzk7 => k_is); (case zzk8 => first | assumption | k_get); (case zzk9 => k_handed); k_whole))) | walk1 | (dsimp only; (first | (((with_reducible show wpAny _ _ (call (Value.ref 35) _) _ _ _); k_dflt (refine' Ctr.use ?zzk1 ?zzk2 ?zzk3 ?zzk4 ?zzk5 ?zzkK (truth_c _ _ _ _ _ _ _ _ _ _ ?zzq1 ?zzw0 ?zzw1 ?zza0 ?zza1 ?zzb0 ?zzb1) ?zzkd ?zzku ?_; (case zzk1 => k_asm); (case zzk2 => k_asm); (case zzk3 => k_asm); (case zzk4 => k_asm); (case zzk5 => k_asm); (case zzkK => first | exact rfl | assumption); (case zzq1 => k_mem); (case zzw0 => assumption); (case zzw1 => assumption); (case zza0 => assumption); (case zza1 => assumption); (case zzb0 => assumption); (case zzb1 => assumption); (case zzkd => ktr_room); (case zzku => ktr_units)); intro r9 n9 h9 tk9 F9 N9 e9; obtain ⟨e8, v8, t8, e7, e6⟩ := e9; subst e7; subst e8; (try dsimp only); (try k_fold); (try k_sweep); walk_say "CALL 35")) | (((with_reducible show wpAny _ _ (call (Value.ref _) _) _ _ _); k_dflt (refine' Ctr.use ?zzk1 ?zzk2 ?zzk3 ?zzk4 ?zzk5 ?zzkK (FoundS.use ?zzq0 ?zzq1 ?zzq2 ?zzq3 ?zzq4 ?zzq5) ?zzkd ?zzku ?_; (case zzk1 => k_asm); (case zzk2 => k_asm); (case zzk3 => k_asm); (case zzk4 => k_asm); (case zzk5 => k_asm); (case zzkK => first | exact rfl | assumption); (case zzq0 => assumption); (case zzq2 => k_mem); (case zzq4 => k_mem); (case zzq3 => assumption); (case zzq5 => assumption); (case zzq1 => (intro p9 hp9; repeat (first | exact hp9 | refine List.Mem.tail _ ?_))); (case zzkd => ktr_room); (case zzku => ktr_units)); intro r9 n9 h9 tk9 F9 N9 e9; obtain ⟨e8, e7⟩ := e9; subst e8; subst e7; (try dsimp only); (try k_fold); (try k_sweep); walk_say "CALL FOUND")) | ((with_reducible show wpAny _ _ (PySem.callWith _ (Value.ref _) _ _ _) _ _ _); (k_dflt (refine' callWith_F ?zzk1 ?_; (case zzk1 => exact FnAt.of (by k_asm) (by k_mem)); k_whole))) | ((with_reducible show wpAny _ _ (PySem.getAttr (Value.ref _) _ _) _ _ _); (k_dflt (refine' get_own ?zzk1 ?zzk2 ?zzk3 ?zzk4 ?zzk5 ?zzk6 ?zzk7 ?zzk8 ?zzk9 ?_; (case zzk1 => k_asm); (case zzk2 => k_asm); (case zzk3 => k_inst); (case zzk4 => k_is); (case zzk5 => k_is); (case zzk6 => k_is); (case zzk7 => k_is); (case zzk8 => first | assumption | k_get); (case zzk9 => k_handed); k_whole))) | walk1)) | (leave1; walk_say "STEP leave1"; try dsimp only) | fail "no step")
    exact hret _ _ _ _ (by k_asm) (by k_asm) ⟨rfl, _, rfl, beq_iff_eq.trans (by assumption)⟩
set_option maxRecDepth 100000 in
set_option maxHeartbeats 8000000 in
theorem no_c (w : World) (mx th dt wt : Addr) (es : List DictEntry) (nT n1 : Nat) (tw : Tok) (tg : Str) (rest : Led) (hg : tg = "delay" ∨ tg = "join")
    (hth : (th, instObj 94 dt) ∈ rest) (hdt : (dt, dictOf es nT) ∈ rest) (hw : getL "wait" es = some (some (Value.ref wt))) (hwt : (wt, tupOf [.str tg tw] n1) ∈ rest) :
    Ctr w 70 [.ref mx, .ref th] 8 256 rest (fun r news' => news' = rest ∧ r = .bool false) := by
  rcases hg with rfl | rfl
  all_goals (
    intro p loose mean mg mb dp un gd cn cs a ccd cl outer A₀ base h₀ L m s Q E B F X N T hk hd hu hret
    have hM := kdMark
    refine wpAny_call ?_
    k_dflt ktr_enter
    repeat' (first | (k_unfold; (try dsimp only)) | (k_end; wrow_close) | (((with_reducible show wpAny _ _ (call (Value.ref 35) _) _ _ _); k_dflt (refine' Ctr.use ?zzk1 ?zzk2 ?zzk3 ?zzk4 ?zzk5 ?zzkK (truth_c _ _ _ _ _ _ _ _ _ _ ?zzq1 ?zzw0 ?zzw1 ?zza0 ?zza1 ?zzb0 ?zzb1) ?zzkd ?zzku ?_; (case zzk1 => k_asm); (case zzk2 => k_asm); (case zzk3 => k_asm); (case zzk4 => k_asm); (case zzk5 => k_asm); (case zzkK => first | exact rfl | assumption); (case zzq1 => k_mem); (case zzw0 => assumption); (case zzw1 => assumption); (case zza0 => assumption); (case zza1 => assumption); (case zzb0 => assumption); (case zzb1 => assumption); (case zzkd => ktr_room); (case zzku => ktr_units)); intro r9 n9 h9 tk9 F9 N9 e9; obtain ⟨e8, v8, t8, e7, e6⟩ := e9; subst e7; subst e8; (try dsimp only); (try k_fold); (try k_sweep); walk_say "CALL 35")) | (((with_reducible show wpAny _ _ (call (Value.ref _) _) _ _ _); k_dflt (refine' Ctr.use ?zzk1 ?zzk2 ?zzk3 ?zzk4 ?zzk5 ?zzkK (FoundS.use ?zzq0 ?zzq1 ?zzq2 ?zzq3 ?zzq4 ?zzq5) ?zzkd ?zzku ?_; (case zzk1 => k_asm); (case zzk2 => k_asm); (case zzk3 => k_asm); (case zzk4 => k_asm); (case zzk5 => k_asm); (case zzkK => first | exact rfl | assumption); (case zzq0 => assumption); (case zzq2 => k_mem); (case zzq4 => k_mem); (case zzq3 => assumption); (case zzq5 => assumption); (case zzq1 => (intro p9 hp9; repeat (first | exact hp9 | refine List.Mem.tail _ ?_))); (case zzkd => ktr_room); (case zzku => ktr_units)); intro r9 n9 h9 tk9 F9 N9 e9; obtain ⟨e8, e7⟩ := e9; subst e8; subst e7; (try dsimp only); (try k_fold); (try k_sweep); walk_say "CALL FOUND")) | ((with_reducible show wpAny _ _ (PySem.callWith _ (Value.ref _) _ _ _) _ _ _); (k_dflt (refine' callWith_F ?zzk1 ?_; (case zzk1 => exact FnAt.of (by k_asm) (by k_mem)); k_whole))) | ((with_reducible show wpAny _ _ (PySem.getAttr (Value.ref _) _ _) _ _ _); (k_dflt (refine' get_own ?zzk1 ?zzk2 ?zzk3 ?zzk4 ?zzk5 ?zzk6 ?zzk7 ?zzk8 ?zzk9 ?_; (case zzk1 => k_asm); (case zzk2 => k_asm); (case zzk3 => k_inst); (case zzk4 => k_is); (case zzk5 => k_is); (case zzk6 => k_is); (case zzk7 => k_is); (case zzk8 => first | assumption | k_get); (case zzk9 => k_handed); k_whole))) | walk1 | (dsimp only; (first | (((with_reducible show wpAny _ _ (call (Value.ref 35) _) _ _ _); k_dflt (refine' Ctr.use ?zzk1 ?zzk2 ?zzk3 ?zzk4 ?zzk5 ?zzkK (truth_c _ _ _ _ _ _ _ _ _ _ ?zzq1 ?zzw0 ?zzw1 ?zza0 ?zza1 ?zzb0 ?zzb1) ?zzkd ?zzku ?_; (case zzk1 => k_asm); (case zzk2 => k_asm); (case zzk3 => k_asm); (case zzk4 => k_asm); (case zzk5 => k_asm); (case zzkK => first | exact rfl | assumption); (case zzq1 => k_mem); (case zzw0 => assumption); (case zzw1 => assumption); (case zza0 => assumption); (case zza1 => assumption); (case zzb0 => assumption); (case zzb1 => assumption); (case zzkd => ktr_room); (case zzku => ktr_units)); intro r9 n9 h9 tk9 F9 N9 e9; obtain ⟨e8, v8, t8, e7, e6⟩ := e9; subst e7; subst e8; (try dsimp only); (try k_fold); (try k_sweep); walk_say "CALL 35")) | (((with_reducible show wpAny _ _ (call (Value.ref _) _) _ _ _); k_dflt (refine' Ctr.use ?zzk1 ?zzk2 ?zzk3 ?zzk4 ?zzk5 ?zzkK (FoundS.use ?zzq0 ?zzq1 ?zzq2 ?zzq3 ?zzq4 ?zzq5) ?zzkd ?zzku ?_; (case zzk1 => k_asm); (case zzk2 => k_asm); (case zzk3 => k_asm); (case zzk4 => k_asm); (case zzk5 => k_asm); (case zzkK => first | exact rfl | assumption); (case zzq0 => assumption); (case zzq2 => k_mem); (case zzq4 => k_mem); (case zzq3 => assumption); (case zzq5 => assumption); (case zzq1 => (intro p9 hp9; repeat (first | exact hp9 | refine List.Mem.tail _ ?_))); (case zzkd => ktr_room); (case zzku => ktr_units)); intro r9 n9 h9 tk9 F9 N9 e9; obtain ⟨e8, e7⟩ := e9; subst e8; subst e7; (try dsimp only); (try k_fold); (try k_sweep); walk_say "CALL FOUND")) | ((with_reducible show wpAny _ _ (PySem.callWith _ (Value.ref _) _ _ _) _ _ _); (k_dflt (refine' callWith_F ?zzk1 ?_; (case zzk1 => exact FnAt.of (by k_asm) (by k_mem)); k_whole))) | ((with_reducible show wpAny _ _ (PySem.getAttr (Value.ref _) _ _) _ _ _); (k_dflt (refine' get_own ?zzk1 ?zzk2 ?zzk3 ?zzk4 ?zzk5 ?zzk6 ?zzk7 ?zzk8 ?zzk9 ?_; (case zzk1 => k_asm); (case zzk2 => k_asm); (case zzk3 => k_inst); (case zzk4 => k_is); (case zzk5 => k_is); (case zzk6 => k_is); (case zzk7 => k_is); (case zzk8 => first | assumption | k_get); (case zzk9 => k_handed); k_whole))) | walk1)) | (leave1; walk_say "STEP leave1"; try dsimp only) | fail "no step")
    exact hret _ _ _ _ (by k_asm) (by k_asm) ⟨rfl, rfl⟩)
end
section
open PySem PySem.W PyProof.Rows PySem.Calls PyProof.V
theorem freshOthers : True := by
  w_top off
  trivial

theorem split1 {h₀ h : Heap} {L a : Addr} {o1 : Obj} {full : Led} (N : News h₀ L h full) (m1 : (a, o1) ∈ full) : ∃ r4, News h₀ L h ((a, o1) :: r4) ∧ OwnOff r4 [a] ∧ ∀ p ∈ full, @Ne Nat p.1 a → p ∈ r4 := by
  refine ⟨but full [a], cb_drop N ?_, but_off, fun p hp x => mem_but hp ?_⟩
  · intro p hp
    rcases List.mem_cons.mp hp with rfl | hp
    · exact m1
    · exact but_sub p hp
  · intro q hq
    rw [List.mem_singleton.mp hq]; exact x
def OthJ (dt : Addr) (r3 : Led) (B0 i : Nat) (nx : Led) : Prop := ∃ es nT w0, nx = (dt, dictOf es nT) :: r3 ∧ getL "wait" es = some w0 ∧ es.length ≤ B0 + i

def WOk (t : V3) : Prop := 1 ≤ t.1 ∧ t.1 ≤ 3 ∧ 0 ≤ t.2.1 ∧ t.2.1 < 2 ^ t.1.toNat ∧ 0 ≤ t.2.2 ∧ t.2.2 < 2 ^ t.1.toNat
abbrev OthPost (hl : Addr) (ho : Obj) (rest : Led) (r : Value) (news' : Led) : Prop :=
  ∃ ps' rest', r = .bool true ∧ news' = (128, tabObj ps') :: (hl, ho) :: rest' ∧ (∀ p ∈ rest, p ∈ rest') ∧ TabS ps' rest' ∧ OwnOff rest' [128, hl]
theorem xor_sub {w z : Int} (h0 : 1 ≤ w) (h1 : w ≤ 3) (z0 : 0 ≤ z) (z1 : z < 2 ^ w.toNat) : Builtin.bitXor z (1 * 2 ^ w.toNat - 1) = 2 ^ w.toNat - 1 - z := by
  rcases (by omega : w = 1 ∨ w = 2 ∨ w = 3) with rfl | rfl | rfl
  · have z1' : z < 2 := z1
    rcases (by omega : z = 0 ∨ z = 1) with rfl | rfl <;> decide
  · have z1' : z < 4 := z1
    rcases (by omega : z = 0 ∨ z = 1 ∨ z = 2 ∨ z = 3) with rfl | rfl | rfl | rfl <;> decide
  · have z1' : z < 8 := z1
    rcases (by omega : z = 0 ∨ z = 1 ∨ z = 2 ∨ z = 3 ∨ z = 4 ∨ z = 5 ∨ z = 6 ∨ z = 7) with rfl | rfl | rfl | rfl | rfl | rfl | rfl | rfl <;> decide
theorem wok8 {t : V3} (h : WOk t) : t.2.1 < 8 ∧ t.2.2 < 8 := by
  obtain ⟨a, b, c, d, e, f⟩ := h
  rcases (by omega : t.1 = 1 ∨ t.1 = 2 ∨ t.1 = 3) with q | q | q <;> rw [q] at d f <;> simp at d f <;> omega
theorem wf_w {w : World} {mx th dt hl sl wt kl ex x : Addr} {ho o3 : Obj} {k1 : List (Int × Value)} {es : List DictEntry} {nT n3 : Nat} {hh : Int} {key : Value} {tw u1 u2 u3 t1 t2 t3 : Tok} {k wd i1 i2 i3 : Int} {r4 : Led}
    {p : Program} {loose : List Str} {mean : ExcName → Option Value} {mg mb : Str → Option Value} {dp un : Nat} {gd : Option (List Code)} {cn : Str} {cs : Scope} {a : Addr} {ccd : Value} {cl : List (Str × Addr)} {outer : List Env} {A₀ : Around} {base h₀ : Heap} {L : Addr} {m : Str → Option Value} {s : Shared} {Q E : Value → Shared → Prop}
    (B : Below A₀ base outer h₀) (F : Fr h₀ L s.heap m) (X : (hd.heap_1 w.params).In h₀)
    (N : News h₀ L s.heap ((wt, tupOf [.str "waitfor" tw, .ref kl, .ref ex] 0) :: (ex, tupOf [.str "sig" u1, .int wd u2, .int k u3] 0) :: (kl, o3) :: (dt, dictOf (putL "wait" hh key (.ref wt) es) nT) :: r4)) (T : Top p loose mean mg mb h₀) (hk : cs.kind = .function)
    (hkey : key.isStr "wait" = true) (hM : Mach w mx hl sl r4) (hth : (th, instObj 94 dt) ∈ r4) (hho : (hl, ho) ∈ r4) (hd0 : ho.IsDictOf (intKind prg w) k1) (hv : valueAt k1 k = some (.ref x)) (hx : (x, vecO i1 i2 i3 t1 t2 t3 n3) ∈ r4) (w0 : 1 ≤ i1) (w1 : i1 ≤ 3) (a0 : 0 ≤ i2) (a1 : i2 < 8) (b0 : 0 ≤ i3) (b1 : i3 < 8)
    (hdp : dp + 8 < recursionLimit) (hun : un + 256 < cLine)
    (kk : ∀ b h' tk', Fr h₀ L h' m → News h₀ L h' ((wt, tupOf [.str "waitfor" tw, .ref kl, .ref ex] 0) :: (ex, tupOf [.str "sig" u1, .int wd u2, .int k u3] 0) :: (kl, o3) :: (dt, dictOf (putL "wait" hh key (.ref wt) es) nT) :: r4) → (b = true ↔ Builtin.bitAnd i2 (Builtin.bitXor i3 (1 * 2 ^ i1.toNat - 1)) ≠ 0) → Q (.bool b) { s with heap := h', toks := tk' }) :
    wpAny (model prg w) (ktrTop dp un gd cn cs L a ccd cl outer) (call (.ref 70) [.ref mx, .ref th]) Q E s := by
  have up : ∀ q ∈ r4, q ∈ (wt, tupOf [.str "waitfor" tw, .ref kl, .ref ex] 0) :: (ex, tupOf [.str "sig" u1, .int wd u2, .int k u3] 0) :: (kl, o3) :: (dt, dictOf (putL "wait" hh key (.ref wt) es) nT) :: r4 := fun q hq => .tail _ (.tail _ (.tail _ (.tail _ hq)))
  refine Ctr.use B F X N T hk (wf_c w mx th dt hl sl wt kl ex x ho k1 _ nT 0 0 n3 tw u1 u2 u3 t1 t2 t3 k wd i1 i2 i3 _ (hM.mono up) (up _ hth) (.tail _ (.tail _ (.tail _ (.head _)))) (getL_put _ _ _ _ hkey _) (.head _) (.tail _ (.head _)) (up _ hho) hd0 hv (up _ hx) w0 w1 a0 a1 b0 b1) hdp hun ?_
  rintro r news' h' tk' F' N' ⟨rfl, b, rfl, hb⟩
  exact kk b h' tk' F' N' hb
theorem no_w {w : World} {mx th dt wt : Addr} {es : List DictEntry} {nT n1 : Nat} {hh : Int} {key : Value} {tw : Tok} {tg : Str} {r4 : Led}
    {p : Program} {loose : List Str} {mean : ExcName → Option Value} {mg mb : Str → Option Value} {dp un : Nat} {gd : Option (List Code)} {cn : Str} {cs : Scope} {a : Addr} {ccd : Value} {cl : List (Str × Addr)} {outer : List Env} {A₀ : Around} {base h₀ : Heap} {L : Addr} {m : Str → Option Value} {s : Shared} {Q E : Value → Shared → Prop}
    (B : Below A₀ base outer h₀) (F : Fr h₀ L s.heap m) (X : (hd.heap_1 w.params).In h₀)
    (N : News h₀ L s.heap ((dt, dictOf (putL "wait" hh key (.ref wt) es) nT) :: r4)) (T : Top p loose mean mg mb h₀) (hk : cs.kind = .function)
    (hkey : key.isStr "wait" = true) (hg : tg = "delay" ∨ tg = "join") (hth : (th, instObj 94 dt) ∈ r4) (hwt : (wt, tupOf [.str tg tw] n1) ∈ r4) (hdp : dp + 8 < recursionLimit) (hun : un + 256 < cLine)
    (kk : ∀ h' tk', Fr h₀ L h' m → News h₀ L h' ((dt, dictOf (putL "wait" hh key (.ref wt) es) nT) :: r4) → Q (.bool false) { s with heap := h', toks := tk' }) :
    wpAny (model prg w) (ktrTop dp un gd cn cs L a ccd cl outer) (call (.ref 70) [.ref mx, .ref th]) Q E s := by
  refine Ctr.use B F X N T hk (no_c w mx th dt wt _ nT n1 tw tg _ hg (.tail _ hth) (.head _) (getL_put _ _ _ _ hkey _) (.tail _ hwt)) hdp hun ?_
  rintro r news' h' tk' F' N' ⟨rfl, rfl⟩
  exact kk h' tk' F' N'
theorem oth_fin {dt : Addr} {r3 own r4 full : Led} {B0 i nT' : Nat} {es es' : List DictEntry} {o1 : Obj} {w1 : Option Value} {st : List Str} {m₀ m' : Str → Option Value} {g h' : Heap} {L : Addr} {s : Shared} {tk : Nat}
    (F : Fr g L h' m') (N : News g L h' full) (hm : ∀ z : Str, st.contains z = false → m' z = m₀ z) (hw : getL "wait" es' = some w1) (hl : es'.length ≤ es.length + 1) (hes : es.length ≤ B0 + i) (hown : OwnOff own (((dt, o1) :: r3).map (·.1))) (hr : r4 = r3 ++ own) (sub1 : (dt, dictOf es' nT') ∈ full) (sub2 : ∀ p ∈ r4, p ∈ full) :
    InvEndG g L (JS st m₀ (OthJ dt r3 B0) (i + 1)) own s { s with heap := h', toks := tk } := by
  subst hr
  refine InvEndG.intro F N ⟨⟨es', nT', w1, rfl, hw, by omega⟩, hm⟩ hown ?_ fun p hp => sub2 p (List.mem_append.mpr (.inr hp))
  intro p hp
  rcases List.mem_cons.mp hp with rfl | hp
  · exact sub1
  · exact sub2 p (List.mem_append.mpr (.inl hp))
theorem wf_no {b : Bool} {i2 z zz : Int} {C : Prop} (hb : b = true ↔ Builtin.bitAnd i2 z ≠ 0) (e : z = zz) (h : (b != (Builtin.bitAnd i2 zz != 0)) = true) : C := by
  subst e
  exfalso
  cases b with
  | true =>
    have := hb.mp rfl
    simp [this] at h
  | false =>
    have : Builtin.bitAnd i2 z = 0 := Classical.byContradiction fun q => Bool.false_ne_true (hb.mpr q)
    simp [this] at h
theorem oth_fin2 {dt ll : Addr} {ol : Obj} {r5 own r6 full : Led} {B0 i nT' : Nat} {es es' : List DictEntry} {o1 : Obj} {w1 : Option Value} {st : List Str} {m₀ m' : Str → Option Value} {g h' : Heap} {L : Addr} {s : Shared} {tk : Nat}
    (F : Fr g L h' m') (N : News g L h' full) (hm : ∀ z : Str, st.contains z = false → m' z = m₀ z) (hw : getL "wait" es' = some w1) (hl : es'.length ≤ es.length + 1) (hes : es.length ≤ B0 + i) (hown : OwnOff own (((dt, o1) :: r5).map (·.1))) (hr : r6 = r5 ++ own) (c0 : (ll, ol) ∈ r5) (sub1 : (dt, dictOf es' nT') ∈ full) (sub2 : ∀ p ∈ r6, p ∈ full) :
    InvEndG g L (fun m' nx => (ll, ol) ∈ nx ∧ JS st m₀ (OthJ dt r5 B0) (i + 1) m' nx) own s { s with heap := h', toks := tk } := by
  subst hr
  refine InvEndG.intro (nx := (dt, dictOf es' nT') :: r5) F N ⟨.tail _ c0, ⟨es', nT', w1, rfl, hw, by omega⟩, hm⟩ hown ?_ fun p hp => sub2 p (List.mem_append.mpr (.inr hp))
  intro p hp
  rcases List.mem_cons.mp hp with rfl | hp
  · exact sub1
  · exact sub2 p (List.mem_append.mpr (.inl hp))
theorem oth_done {hl dt sl : Addr} {ho o1 : Obj} {rest r2 r5 : Led} {ps2 : Array Value} {h₀ h' : Heap} {L : Addr} {m : Str → Option Value} {s : Shared} {Q : Value → Shared → Prop} {tk : Nat}
    (hret : ∀ r news' h' tk', Fr h₀ L h' m → News h₀ L h' news' → OthPost hl ho rest r news' → Q r { s with heap := h', toks := tk' })
    (F : Fr h₀ L h' m) (N : News h₀ L h' ((dt, o1) :: r5)) (q1 : (128, tabObj ps2) ∈ r5) (q2 : (hl, ho) ∈ r5) (p0 : ∀ p ∈ rest, p ∈ r5) (off : OwnOff rest [128, hl]) (p2 : ∀ p ∈ r2, p ∈ r5) (off2 : OwnOff r2 [128, hl, sl]) (hT : TabS ps2 r2) : Q (.bool true) { s with heap := h', toks := tk } := by
  have put : ∀ p ∈ r5, @Ne Nat p.1 128 → @Ne Nat p.1 hl → p ∈ but r5 [128, hl] := fun p hp a1 a2 => mem_but hp (by
    intro b hb
    simp only [List.mem_cons, List.mem_nil_iff, or_false] at hb
    rcases hb with rfl | rfl
    · exact a1
    · exact a2)
  refine hret _ ((128, tabObj ps2) :: (hl, ho) :: but r5 [128, hl]) h' tk F (cb_drop N ?_) ⟨ps2, _, rfl, rfl, fun p hp => put p (p0 p hp) (off p hp _ (by simp)) (off p hp _ (by simp)), hT.mono fun p hp => put p (p2 p hp) (off2 p hp _ (by simp)) (off2 p hp _ (by simp)), but_off⟩
  intro p hp
  rcases List.mem_cons.mp hp with rfl | hp
  · exact .tail _ q1
  · rcases List.mem_cons.mp hp with rfl | hp
    · exact .tail _ q2
    · exact .tail _ (but_sub p hp)
set_option maxRecDepth 100000 in
set_option maxHeartbeats 8000000 in
theorem oth_c (w : World) (hl : Addr) (jv : Value) (ho : Obj) (kvs : List (Int × Value)) (hv : Int → V3) (ps : Array Value) (rest : Led)
    (hd0 : ho.IsDictOf (intKind prg w) kvs) (hheld : HeldOk 3 kvs hv rest) (hP : ∀ k, 0 ≤ k → k < 3 → WOk (hv k)) (hT : TabS ps rest) (off : OwnOff rest [128, hl]) (hne : @Ne Nat hl 128) :
    Ctr w 145 [jv, .ref hl] 16 512 ((128, tabObj ps) :: (hl, ho) :: rest) (OthPost hl ho rest) := by
    intro p loose mean mg mb dp un gd cn cs a ccd cl outer A₀ base h₀ L m s Q E B F X N T hk hd hu hret
    have hM := kdMark
    refine wpAny_call ?_
    k_dflt ktr_enter
    repeat' ((fail_if_success (with_reducible show wpAny _ _ (call (Value.ref 133) _) _ _ _)); (first | (k_unfold; (try dsimp only)) | (k_end; wrow_close) | ((with_reducible show wpAny _ _ (PySem.setAttr (Value.ref _) _ _) _ _ _); (k_dflt (refine' set_dict ?zzk1 ?zzk2 ?zzk3 ?zzk4 ?zzk5 ?zzk6 ?zzk7 ?zzk8 ?zzk9 ?zzk10 ?zzk11 ?zzk12 ?zzk13 ?_; (case zzk1 => k_asm); (case zzk2 => k_asm); (case zzk3 => k_asm); (case zzk4 => k_inst); (case zzk5 => exact rfl); (case zzk6 => k_is); (case zzk7 => k_is); (case zzk8 => k_is); (case zzk9 => k_is); (case zzk10 => exact getL_some (by assumption)); (case zzk11 => exact rfl); (case zzk12 => k_upd); (case zzk13 => (refine Nat.le_trans (putL_len _ _ _ _ _) ?_; omega)); k_whole); intro h' F' N'; (try k_sweep))) | (((with_reducible show wpAny _ _ (subscriptTail _ _ (Value.ref _) (Value.int _ _)) _ _ _); k_dflt (refine' kda_item (knd := PySem.intKind _ _) ?zzN ?zzm ?zzd ?zzk ?zzv ?_ ?zzhs ?zzhg; (case zzN => k_asm); (case zzm => k_mem); (case zzd => assumption); (case zzk => exact intKind_is _ _ _ _); (case zzv => assumption); (case zzhs => with_unfolding_all rfl); (case zzhg => (intro _; with_unfolding_all rfl)); k_whole))) | ((with_reducible show wpAny _ _ (PySem.callWith _ (Value.ref _) _ _ _) _ _ _); (k_dflt (refine' callWith_F ?zzk1 ?_; (case zzk1 => exact FnAt.of (by k_asm) (by k_mem)); k_whole))) | ((with_reducible show wpAny _ _ (PySem.getAttr (Value.ref _) _ _) _ _ _); (k_dflt (refine' get_own ?zzk1 ?zzk2 ?zzk3 ?zzk4 ?zzk5 ?zzk6 ?zzk7 ?zzk8 ?zzk9 ?_; (case zzk1 => k_asm); (case zzk2 => k_asm); (case zzk3 => k_inst); (case zzk4 => k_is); (case zzk5 => k_is); (case zzk6 => k_is); (case zzk7 => k_is); (case zzk8 => first | assumption | k_get); (case zzk9 => k_handed); k_whole))) | ((with_reducible show wpAny _ _ (PySem.execs (_ :: _) _) _ _ _); ((with_reducible refine wpAny_execs_cons ?_); (try dsimp only); (try k_fold))) | walk1 | (dsimp only; (first | ((with_reducible show wpAny _ _ (PySem.setAttr (Value.ref _) _ _) _ _ _); (k_dflt (refine' set_dict ?zzk1 ?zzk2 ?zzk3 ?zzk4 ?zzk5 ?zzk6 ?zzk7 ?zzk8 ?zzk9 ?zzk10 ?zzk11 ?zzk12 ?zzk13 ?_; (case zzk1 => k_asm); (case zzk2 => k_asm); (case zzk3 => k_asm); (case zzk4 => k_inst); (case zzk5 => exact rfl); (case zzk6 => k_is); (case zzk7 => k_is); (case zzk8 => k_is); (case zzk9 => k_is); (case zzk10 => exact getL_some (by assumption)); (case zzk11 => exact rfl); (case zzk12 => k_upd); (case zzk13 => (refine Nat.le_trans (putL_len _ _ _ _ _) ?_; omega)); k_whole); intro h' F' N'; (try k_sweep))) | (((with_reducible show wpAny _ _ (subscriptTail _ _ (Value.ref _) (Value.int _ _)) _ _ _); k_dflt (refine' kda_item (knd := PySem.intKind _ _) ?zzN ?zzm ?zzd ?zzk ?zzv ?_ ?zzhs ?zzhg; (case zzN => k_asm); (case zzm => k_mem); (case zzd => assumption); (case zzk => exact intKind_is _ _ _ _); (case zzv => assumption); (case zzhs => with_unfolding_all rfl); (case zzhg => (intro _; with_unfolding_all rfl)); k_whole))) | ((with_reducible show wpAny _ _ (PySem.callWith _ (Value.ref _) _ _ _) _ _ _); (k_dflt (refine' callWith_F ?zzk1 ?_; (case zzk1 => exact FnAt.of (by k_asm) (by k_mem)); k_whole))) | ((with_reducible show wpAny _ _ (PySem.getAttr (Value.ref _) _ _) _ _ _); (k_dflt (refine' get_own ?zzk1 ?zzk2 ?zzk3 ?zzk4 ?zzk5 ?zzk6 ?zzk7 ?zzk8 ?zzk9 ?_; (case zzk1 => k_asm); (case zzk2 => k_asm); (case zzk3 => k_inst); (case zzk4 => k_is); (case zzk5 => k_is); (case zzk6 => k_is); (case zzk7 => k_is); (case zzk8 => first | assumption | k_get); (case zzk9 => k_handed); k_whole))) | ((with_reducible show wpAny _ _ (PySem.execs (_ :: _) _) _ _ _); ((with_reducible refine wpAny_execs_cons ?_); (try dsimp only); (try k_fold))) | walk1)) | (leave1; walk_say "STEP leave1"; try dsimp only)))
    (rename News _ _ _ _ => lN)
    obtain ⟨sl, esl⟩ := news_hd lN
    subst esl
    refine' machine_w ?k1 ?k2 ?k3 ?k4 ?k5 ?kK ?m1 ?m2 ?m3 ?hr hT off ?hsl hne ?h2 ?h3 ?kd ?ku ?_
    case k1 => k_asm
    case k2 => k_asm
    case k3 => k_asm
    case k4 => k_asm
    case k5 => k_asm
    case kK => first | exact rfl | assumption
    case m1 => k_mem
    case m2 => k_mem
    case m3 => k_mem
    case hr => intro p hp; simp only [List.mem_cons, hp, or_true]
    case h2 => show @Ne Nat _ _; omega
    case h3 => show @Ne Nat _ _; omega
    case hsl => exact And.right (And.right (by assumption))
    case kd => ktr_room
    case ku => ktr_units
    have hltS := (by assumption : @LT.lt Nat _ 128 sl ∧ @LT.lt Nat _ hl sl ∧ AllLt sl rest)
    obtain ⟨hl3, hl4, hl5⟩ := hltS
    intro x ps2 r2 h2 tk2 F2 N2 hMa hTb off2 hup
    have hsub : ∀ p ∈ rest, p ∈ r2 := fun p hp => hup p (by simp only [List.mem_cons, hp, or_true]) (off p hp _ (by simp)) (off p hp _ (by simp)) (Nat.ne_of_lt (tb_ltOf hl5 p hp))
    clear hup lN
    repeat' ((fail_if_success (with_reducible show wpAny _ _ (PySem.exec (PySem.Stmt.For _ _ _ _ _) _) _ _ _)); (first | (k_unfold; (try dsimp only)) | (k_end; wrow_close) | ((with_reducible show wpAny _ _ (PySem.setAttr (Value.ref _) _ _) _ _ _); (k_dflt (refine' set_dict ?zzk1 ?zzk2 ?zzk3 ?zzk4 ?zzk5 ?zzk6 ?zzk7 ?zzk8 ?zzk9 ?zzk10 ?zzk11 ?zzk12 ?zzk13 ?_; (case zzk1 => k_asm); (case zzk2 => k_asm); (case zzk3 => k_asm); (case zzk4 => k_inst); (case zzk5 => exact rfl); (case zzk6 => k_is); (case zzk7 => k_is); (case zzk8 => k_is); (case zzk9 => k_is); (case zzk10 => exact getL_some (by assumption)); (case zzk11 => exact rfl); (case zzk12 => k_upd); (case zzk13 => (refine Nat.le_trans (putL_len _ _ _ _ _) ?_; omega)); k_whole); intro h' F' N'; (try k_sweep))) | (((with_reducible show wpAny _ _ (subscriptTail _ _ (Value.ref _) (Value.int _ _)) _ _ _); k_dflt (refine' kda_item (knd := PySem.intKind _ _) ?zzN ?zzm ?zzd ?zzk ?zzv ?_ ?zzhs ?zzhg; (case zzN => k_asm); (case zzm => k_mem); (case zzd => assumption); (case zzk => exact intKind_is _ _ _ _); (case zzv => assumption); (case zzhs => with_unfolding_all rfl); (case zzhg => (intro _; with_unfolding_all rfl)); k_whole))) | ((with_reducible show wpAny _ _ (PySem.callWith _ (Value.ref _) _ _ _) _ _ _); (k_dflt (refine' callWith_F ?zzk1 ?_; (case zzk1 => exact FnAt.of (by k_asm) (by k_mem)); k_whole))) | ((with_reducible show wpAny _ _ (PySem.getAttr (Value.ref _) _ _) _ _ _); (k_dflt (refine' get_own ?zzk1 ?zzk2 ?zzk3 ?zzk4 ?zzk5 ?zzk6 ?zzk7 ?zzk8 ?zzk9 ?_; (case zzk1 => k_asm); (case zzk2 => k_asm); (case zzk3 => k_inst); (case zzk4 => k_is); (case zzk5 => k_is); (case zzk6 => k_is); (case zzk7 => k_is); (case zzk8 => first | assumption | k_get); (case zzk9 => k_handed); k_whole))) | ((with_reducible show wpAny _ _ (PySem.execs (_ :: _) _) _ _ _); ((with_reducible refine wpAny_execs_cons ?_); (try dsimp only); (try k_fold))) | walk1 | (dsimp only; (first | ((with_reducible show wpAny _ _ (PySem.setAttr (Value.ref _) _ _) _ _ _); (k_dflt (refine' set_dict ?zzk1 ?zzk2 ?zzk3 ?zzk4 ?zzk5 ?zzk6 ?zzk7 ?zzk8 ?zzk9 ?zzk10 ?zzk11 ?zzk12 ?zzk13 ?_; (case zzk1 => k_asm); (case zzk2 => k_asm); (case zzk3 => k_asm); (case zzk4 => k_inst); (case zzk5 => exact rfl); (case zzk6 => k_is); (case zzk7 => k_is); (case zzk8 => k_is); (case zzk9 => k_is); (case zzk10 => exact getL_some (by assumption)); (case zzk11 => exact rfl); (case zzk12 => k_upd); (case zzk13 => (refine Nat.le_trans (putL_len _ _ _ _ _) ?_; omega)); k_whole); intro h' F' N'; (try k_sweep))) | (((with_reducible show wpAny _ _ (subscriptTail _ _ (Value.ref _) (Value.int _ _)) _ _ _); k_dflt (refine' kda_item (knd := PySem.intKind _ _) ?zzN ?zzm ?zzd ?zzk ?zzv ?_ ?zzhs ?zzhg; (case zzN => k_asm); (case zzm => k_mem); (case zzd => assumption); (case zzk => exact intKind_is _ _ _ _); (case zzv => assumption); (case zzhs => with_unfolding_all rfl); (case zzhg => (intro _; with_unfolding_all rfl)); k_whole))) | ((with_reducible show wpAny _ _ (PySem.callWith _ (Value.ref _) _ _ _) _ _ _); (k_dflt (refine' callWith_F ?zzk1 ?_; (case zzk1 => exact FnAt.of (by k_asm) (by k_mem)); k_whole))) | ((with_reducible show wpAny _ _ (PySem.getAttr (Value.ref _) _ _) _ _ _); (k_dflt (refine' get_own ?zzk1 ?zzk2 ?zzk3 ?zzk4 ?zzk5 ?zzk6 ?zzk7 ?zzk8 ?zzk9 ?_; (case zzk1 => k_asm); (case zzk2 => k_asm); (case zzk3 => k_inst); (case zzk4 => k_is); (case zzk5 => k_is); (case zzk6 => k_is); (case zzk7 => k_is); (case zzk8 => first | assumption | k_get); (case zzk9 => k_handed); k_whole))) | ((with_reducible show wpAny _ _ (PySem.execs (_ :: _) _) _ _ _); ((with_reducible refine wpAny_execs_cons ?_); (try dsimp only); (try k_fold))) | walk1)) | (leave1; walk_say "STEP leave1"; try dsimp only)))
    (rename News _ _ _ (_ :: _ :: _ :: _ :: _ :: _) => lN)
    obtain ⟨th, eth⟩ := news_hd (news_tl (news_tl (news_tl lN)))
    obtain ⟨dt, edt⟩ := news_hd (news_tl (news_tl (news_tl (news_tl lN))))
    subst eth
    subst edt
    have hltD := (by assumption : @LT.lt Nat _ _ dt ∧ _ ∧ @LT.lt Nat _ 128 dt ∧ @LT.lt Nat _ hl dt ∧ @LT.lt Nat _ sl dt ∧ AllLt dt r2)
    obtain ⟨_, _, hd3, hd4, hd5, hd6⟩ := hltD
    obtain ⟨r3, N10, off3, put⟩ := split1 lN (List.Mem.tail _ (List.Mem.tail _ (List.Mem.tail _ (List.Mem.tail _ (List.Mem.head _)))))
    have p2 : ∀ p ∈ r2, p ∈ r3 := fun p hp => put p (by simp only [List.mem_cons, hp, or_true]) (Nat.ne_of_lt (tb_ltOf hd6 p hp))
    have p0 : ∀ p ∈ rest, p ∈ r3 := fun p hp => p2 p (hsub p hp)
    have q1 := put (128, tabObj ps2) (by k_mem) (by show @Ne Nat _ _; omega)
    have q2 := put (hl, ho) (by k_mem) (by show @Ne Nat _ _; omega)
    have q3 := put (th, instObj 94 dt) (by k_mem) (by show @Ne Nat _ _; omega)
    have hM3 := hMa.mono p2
    clear put lN
    (rename Fr _ _ _ _ => lF)
    refine' For_invVF lF ?kf1 ?kf2 ?_
    case kf1 => exact rfl
    case kf2 => exact rfl
    repeat' ((fail_if_success (with_reducible show wpAny _ _ (PySem.pyIter (Value.ref _)) _ _ _)); (first | (k_unfold; (try dsimp only)) | (k_end; wrow_close) | ((with_reducible show wpAny _ _ (PySem.setAttr (Value.ref _) _ _) _ _ _); (k_dflt (refine' set_dict ?zzk1 ?zzk2 ?zzk3 ?zzk4 ?zzk5 ?zzk6 ?zzk7 ?zzk8 ?zzk9 ?zzk10 ?zzk11 ?zzk12 ?zzk13 ?_; (case zzk1 => k_asm); (case zzk2 => k_asm); (case zzk3 => k_asm); (case zzk4 => k_inst); (case zzk5 => exact rfl); (case zzk6 => k_is); (case zzk7 => k_is); (case zzk8 => k_is); (case zzk9 => k_is); (case zzk10 => exact getL_some (by assumption)); (case zzk11 => exact rfl); (case zzk12 => k_upd); (case zzk13 => (refine Nat.le_trans (putL_len _ _ _ _ _) ?_; omega)); k_whole); intro h' F' N'; (try k_sweep))) | (((with_reducible show wpAny _ _ (subscriptTail _ _ (Value.ref _) (Value.int _ _)) _ _ _); k_dflt (refine' kda_item (knd := PySem.intKind _ _) ?zzN ?zzm ?zzd ?zzk ?zzv ?_ ?zzhs ?zzhg; (case zzN => k_asm); (case zzm => k_mem); (case zzd => assumption); (case zzk => exact intKind_is _ _ _ _); (case zzv => assumption); (case zzhs => with_unfolding_all rfl); (case zzhg => (intro _; with_unfolding_all rfl)); k_whole))) | ((with_reducible show wpAny _ _ (PySem.callWith _ (Value.ref _) _ _ _) _ _ _); (k_dflt (refine' callWith_F ?zzk1 ?_; (case zzk1 => exact FnAt.of (by k_asm) (by k_mem)); k_whole))) | ((with_reducible show wpAny _ _ (PySem.getAttr (Value.ref _) _ _) _ _ _); (k_dflt (refine' get_own ?zzk1 ?zzk2 ?zzk3 ?zzk4 ?zzk5 ?zzk6 ?zzk7 ?zzk8 ?zzk9 ?_; (case zzk1 => k_asm); (case zzk2 => k_asm); (case zzk3 => k_inst); (case zzk4 => k_is); (case zzk5 => k_is); (case zzk6 => k_is); (case zzk7 => k_is); (case zzk8 => first | assumption | k_get); (case zzk9 => k_handed); k_whole))) | ((with_reducible show wpAny _ _ (PySem.execs (_ :: _) _) _ _ _); ((with_reducible refine wpAny_execs_cons ?_); (try dsimp only); (try k_fold))) | walk1 | (dsimp only; (first | ((with_reducible show wpAny _ _ (PySem.setAttr (Value.ref _) _ _) _ _ _); (k_dflt (refine' set_dict ?zzk1 ?zzk2 ?zzk3 ?zzk4 ?zzk5 ?zzk6 ?zzk7 ?zzk8 ?zzk9 ?zzk10 ?zzk11 ?zzk12 ?zzk13 ?_; (case zzk1 => k_asm); (case zzk2 => k_asm); (case zzk3 => k_asm); (case zzk4 => k_inst); (case zzk5 => exact rfl); (case zzk6 => k_is); (case zzk7 => k_is); (case zzk8 => k_is); (case zzk9 => k_is); (case zzk10 => exact getL_some (by assumption)); (case zzk11 => exact rfl); (case zzk12 => k_upd); (case zzk13 => (refine Nat.le_trans (putL_len _ _ _ _ _) ?_; omega)); k_whole); intro h' F' N'; (try k_sweep))) | (((with_reducible show wpAny _ _ (subscriptTail _ _ (Value.ref _) (Value.int _ _)) _ _ _); k_dflt (refine' kda_item (knd := PySem.intKind _ _) ?zzN ?zzm ?zzd ?zzk ?zzv ?_ ?zzhs ?zzhg; (case zzN => k_asm); (case zzm => k_mem); (case zzd => assumption); (case zzk => exact intKind_is _ _ _ _); (case zzv => assumption); (case zzhs => with_unfolding_all rfl); (case zzhg => (intro _; with_unfolding_all rfl)); k_whole))) | ((with_reducible show wpAny _ _ (PySem.callWith _ (Value.ref _) _ _ _) _ _ _); (k_dflt (refine' callWith_F ?zzk1 ?_; (case zzk1 => exact FnAt.of (by k_asm) (by k_mem)); k_whole))) | ((with_reducible show wpAny _ _ (PySem.getAttr (Value.ref _) _ _) _ _ _); (k_dflt (refine' get_own ?zzk1 ?zzk2 ?zzk3 ?zzk4 ?zzk5 ?zzk6 ?zzk7 ?zzk8 ?zzk9 ?_; (case zzk1 => k_asm); (case zzk2 => k_asm); (case zzk3 => k_inst); (case zzk4 => k_is); (case zzk5 => k_is); (case zzk6 => k_is); (case zzk7 => k_is); (case zzk8 => first | assumption | k_get); (case zzk9 => k_handed); k_whole))) | ((with_reducible show wpAny _ _ (PySem.execs (_ :: _) _) _ _ _); ((with_reducible refine wpAny_execs_cons ?_); (try dsimp only); (try k_fold))) | walk1)) | (leave1; walk_say "STEP leave1"; try dsimp only)))
    (rename Fr _ _ _ _ => lF)
    (rename News _ _ _ _ => lN)
    refine iter_rangeS (n := 3) ["key", "known_ones"] (OthJ dt r3 20) (by rfl) (by assumption) (by decide) (by decide) lF lN ⟨_, _, some Value.none, rfl, by k_get, Nat.le_of_ble_eq_true rfl⟩ ?turn ?done
    case turn =>
      intro i ti u nx h7 tk7 own hi hown ⟨es, nT, w0, enx, hgw, hel⟩ F7 N7
      subst enx
      simp only [List.cons_append] at N7
      obtain ⟨r4, hr4⟩ : ∃ r4, r4 = r3 ++ own := ⟨_, rfl⟩
      rw [← hr4] at N7
      have s4 : ∀ p ∈ r3, p ∈ r4 := fun p hp => by rw [hr4]; exact List.mem_append.mpr (.inl hp)
      have off4 : OwnOff r4 [dt] := by
        intro p hp b hb
        rw [hr4] at hp
        rcases List.mem_append.mp hp with h | h
        · exact off3 p h b hb
        · refine hown p h b ?_
          simp only [List.mem_singleton] at hb
          simp only [List.map_cons, List.mem_cons, hb, true_or]
      obtain ⟨v, hval, x0, g1, g2, g3, g4, rfl, hx0, _, _, _, _⟩ := hheld (i : Int) (by omega) (by omega)
      have hw := hP (i : Int) (by omega) (by omega)
      obtain ⟨a1, b1⟩ := wok8 hw
      obtain ⟨w0', w1', a0, _, b0, hb2⟩ := hw
      have hxs := xor_sub w0' w1' b0 hb2
      replace q1 := s4 _ q1
      replace q2 := s4 _ q2
      replace q3 := s4 _ q3
      replace hx0 := s4 _ (p0 _ hx0)
      have hM4 := hM3.mono s4
      clear lN lF
      generalize hv (i : Int) = t at *
      obtain ⟨wd, i2, i3⟩ := t
      dsimp only at *
      rcases (by omega : wd = 1 ∨ wd = 2 ∨ wd = 3) with rfl | rfl | rfl
      all_goals (
        repeat' ((fail_if_success (with_reducible show wpAny _ _ (PySem.setAttr _ _ _) _ _ _)); (first | (k_unfold; (try dsimp only)) | (k_end; wrow_close) | ((with_reducible show wpAny _ _ (PySem.setAttr (Value.ref _) _ _) _ _ _); (k_dflt (refine' set_dict ?zzk1 ?zzk2 ?zzk3 ?zzk4 ?zzk5 ?zzk6 ?zzk7 ?zzk8 ?zzk9 ?zzk10 ?zzk11 ?zzk12 ?zzk13 ?_; (case zzk1 => k_asm); (case zzk2 => k_asm); (case zzk3 => k_asm); (case zzk4 => k_inst); (case zzk5 => exact rfl); (case zzk6 => k_is); (case zzk7 => k_is); (case zzk8 => k_is); (case zzk9 => k_is); (case zzk10 => exact getL_some (by assumption)); (case zzk11 => exact rfl); (case zzk12 => k_upd); (case zzk13 => (refine Nat.le_trans (putL_len _ _ _ _ _) ?_; omega)); k_whole); intro h' F' N'; (try k_sweep))) | (((with_reducible show wpAny _ _ (subscriptTail _ _ (Value.ref _) (Value.int _ _)) _ _ _); k_dflt (refine' kda_item (knd := PySem.intKind _ _) ?zzN ?zzm ?zzd ?zzk ?zzv ?_ ?zzhs ?zzhg; (case zzN => k_asm); (case zzm => k_mem); (case zzd => assumption); (case zzk => exact intKind_is _ _ _ _); (case zzv => assumption); (case zzhs => with_unfolding_all rfl); (case zzhg => (intro _; with_unfolding_all rfl)); k_whole))) | ((with_reducible show wpAny _ _ (PySem.callWith _ (Value.ref _) _ _ _) _ _ _); (k_dflt (refine' callWith_F ?zzk1 ?_; (case zzk1 => exact FnAt.of (by k_asm) (by k_mem)); k_whole))) | ((with_reducible show wpAny _ _ (PySem.getAttr (Value.ref _) _ _) _ _ _); (k_dflt (refine' get_own ?zzk1 ?zzk2 ?zzk3 ?zzk4 ?zzk5 ?zzk6 ?zzk7 ?zzk8 ?zzk9 ?_; (case zzk1 => k_asm); (case zzk2 => k_asm); (case zzk3 => k_inst); (case zzk4 => k_is); (case zzk5 => k_is); (case zzk6 => k_is); (case zzk7 => k_is); (case zzk8 => first | assumption | k_get); (case zzk9 => k_handed); k_whole))) | ((with_reducible show wpAny _ _ (PySem.execs (_ :: _) _) _ _ _); ((with_reducible refine wpAny_execs_cons ?_); (try dsimp only); (try k_fold))) | walk1 | (dsimp only; (first | ((with_reducible show wpAny _ _ (PySem.setAttr (Value.ref _) _ _) _ _ _); (k_dflt (refine' set_dict ?zzk1 ?zzk2 ?zzk3 ?zzk4 ?zzk5 ?zzk6 ?zzk7 ?zzk8 ?zzk9 ?zzk10 ?zzk11 ?zzk12 ?zzk13 ?_; (case zzk1 => k_asm); (case zzk2 => k_asm); (case zzk3 => k_asm); (case zzk4 => k_inst); (case zzk5 => exact rfl); (case zzk6 => k_is); (case zzk7 => k_is); (case zzk8 => k_is); (case zzk9 => k_is); (case zzk10 => exact getL_some (by assumption)); (case zzk11 => exact rfl); (case zzk12 => k_upd); (case zzk13 => (refine Nat.le_trans (putL_len _ _ _ _ _) ?_; omega)); k_whole); intro h' F' N'; (try k_sweep))) | (((with_reducible show wpAny _ _ (subscriptTail _ _ (Value.ref _) (Value.int _ _)) _ _ _); k_dflt (refine' kda_item (knd := PySem.intKind _ _) ?zzN ?zzm ?zzd ?zzk ?zzv ?_ ?zzhs ?zzhg; (case zzN => k_asm); (case zzm => k_mem); (case zzd => assumption); (case zzk => exact intKind_is _ _ _ _); (case zzv => assumption); (case zzhs => with_unfolding_all rfl); (case zzhg => (intro _; with_unfolding_all rfl)); k_whole))) | ((with_reducible show wpAny _ _ (PySem.callWith _ (Value.ref _) _ _ _) _ _ _); (k_dflt (refine' callWith_F ?zzk1 ?_; (case zzk1 => exact FnAt.of (by k_asm) (by k_mem)); k_whole))) | ((with_reducible show wpAny _ _ (PySem.getAttr (Value.ref _) _ _) _ _ _); (k_dflt (refine' get_own ?zzk1 ?zzk2 ?zzk3 ?zzk4 ?zzk5 ?zzk6 ?zzk7 ?zzk8 ?zzk9 ?_; (case zzk1 => k_asm); (case zzk2 => k_asm); (case zzk3 => k_inst); (case zzk4 => k_is); (case zzk5 => k_is); (case zzk6 => k_is); (case zzk7 => k_is); (case zzk8 => first | assumption | k_get); (case zzk9 => k_handed); k_whole))) | ((with_reducible show wpAny _ _ (PySem.execs (_ :: _) _) _ _ _); ((with_reducible refine wpAny_execs_cons ?_); (try dsimp only); (try k_fold))) | walk1)) | (leave1; walk_say "STEP leave1"; try dsimp only)))
        (rename News _ _ _ _ => lN9)
        have e1 := news_sep lN9 (List.Mem.head _) (List.Mem.tail _ (List.Mem.tail _ (List.Mem.tail _ (List.Mem.head _)))) (by simp)
        have e2 := news_sep lN9 (List.Mem.tail _ (List.Mem.head _)) (List.Mem.tail _ (List.Mem.tail _ (List.Mem.tail _ (List.Mem.head _)))) (by simp)
        (first | ((with_reducible show wpAny _ _ (PySem.setAttr (Value.ref _) _ _) _ _ _); (k_dflt (refine' set_dict ?zzk1 ?zzk2 ?zzk3 ?zzk4 ?zzk5 ?zzk6 ?zzk7 ?zzk8 ?zzk9 ?zzk10 ?zzk11 ?zzk12 ?zzk13 ?_; (case zzk1 => k_asm); (case zzk2 => k_asm); (case zzk3 => k_asm); (case zzk4 => k_inst); (case zzk5 => exact rfl); (case zzk6 => k_is); (case zzk7 => k_is); (case zzk8 => k_is); (case zzk9 => k_is); (case zzk10 => exact getL_some (by assumption)); (case zzk11 => exact rfl); (case zzk12 => k_upd); (case zzk13 => (refine Nat.le_trans (putL_len _ _ _ _ _) ?_; omega)); k_whole); intro h' F' N'; (try k_sweep))) | walk_at "setAttr ref")
        repeat' ((fail_if_success (with_reducible show wpAny _ _ (call (Value.ref 70) _) _ _ _)); (first | (k_unfold; (try dsimp only)) | (k_end; wrow_close) | ((with_reducible show wpAny _ _ (PySem.setAttr (Value.ref _) _ _) _ _ _); (k_dflt (refine' set_dict ?zzk1 ?zzk2 ?zzk3 ?zzk4 ?zzk5 ?zzk6 ?zzk7 ?zzk8 ?zzk9 ?zzk10 ?zzk11 ?zzk12 ?zzk13 ?_; (case zzk1 => k_asm); (case zzk2 => k_asm); (case zzk3 => k_asm); (case zzk4 => k_inst); (case zzk5 => exact rfl); (case zzk6 => k_is); (case zzk7 => k_is); (case zzk8 => k_is); (case zzk9 => k_is); (case zzk10 => exact getL_some (by assumption)); (case zzk11 => exact rfl); (case zzk12 => k_upd); (case zzk13 => (refine Nat.le_trans (putL_len _ _ _ _ _) ?_; omega)); k_whole); intro h' F' N'; (try k_sweep))) | (((with_reducible show wpAny _ _ (subscriptTail _ _ (Value.ref _) (Value.int _ _)) _ _ _); k_dflt (refine' kda_item (knd := PySem.intKind _ _) ?zzN ?zzm ?zzd ?zzk ?zzv ?_ ?zzhs ?zzhg; (case zzN => k_asm); (case zzm => k_mem); (case zzd => assumption); (case zzk => exact intKind_is _ _ _ _); (case zzv => assumption); (case zzhs => with_unfolding_all rfl); (case zzhg => (intro _; with_unfolding_all rfl)); k_whole))) | ((with_reducible show wpAny _ _ (PySem.callWith _ (Value.ref _) _ _ _) _ _ _); (k_dflt (refine' callWith_F ?zzk1 ?_; (case zzk1 => exact FnAt.of (by k_asm) (by k_mem)); k_whole))) | ((with_reducible show wpAny _ _ (PySem.getAttr (Value.ref _) _ _) _ _ _); (k_dflt (refine' get_own ?zzk1 ?zzk2 ?zzk3 ?zzk4 ?zzk5 ?zzk6 ?zzk7 ?zzk8 ?zzk9 ?_; (case zzk1 => k_asm); (case zzk2 => k_asm); (case zzk3 => k_inst); (case zzk4 => k_is); (case zzk5 => k_is); (case zzk6 => k_is); (case zzk7 => k_is); (case zzk8 => first | assumption | k_get); (case zzk9 => k_handed); k_whole))) | ((with_reducible show wpAny _ _ (PySem.execs (_ :: _) _) _ _ _); ((with_reducible refine wpAny_execs_cons ?_); (try dsimp only); (try k_fold))) | walk1 | (dsimp only; (first | ((with_reducible show wpAny _ _ (PySem.setAttr (Value.ref _) _ _) _ _ _); (k_dflt (refine' set_dict ?zzk1 ?zzk2 ?zzk3 ?zzk4 ?zzk5 ?zzk6 ?zzk7 ?zzk8 ?zzk9 ?zzk10 ?zzk11 ?zzk12 ?zzk13 ?_; (case zzk1 => k_asm); (case zzk2 => k_asm); (case zzk3 => k_asm); (case zzk4 => k_inst); (case zzk5 => exact rfl); (case zzk6 => k_is); (case zzk7 => k_is); (case zzk8 => k_is); (case zzk9 => k_is); (case zzk10 => exact getL_some (by assumption)); (case zzk11 => exact rfl); (case zzk12 => k_upd); (case zzk13 => (refine Nat.le_trans (putL_len _ _ _ _ _) ?_; omega)); k_whole); intro h' F' N'; (try k_sweep))) | (((with_reducible show wpAny _ _ (subscriptTail _ _ (Value.ref _) (Value.int _ _)) _ _ _); k_dflt (refine' kda_item (knd := PySem.intKind _ _) ?zzN ?zzm ?zzd ?zzk ?zzv ?_ ?zzhs ?zzhg; (case zzN => k_asm); (case zzm => k_mem); (case zzd => assumption); (case zzk => exact intKind_is _ _ _ _); (case zzv => assumption); (case zzhs => with_unfolding_all rfl); (case zzhg => (intro _; with_unfolding_all rfl)); k_whole))) | ((with_reducible show wpAny _ _ (PySem.callWith _ (Value.ref _) _ _ _) _ _ _); (k_dflt (refine' callWith_F ?zzk1 ?_; (case zzk1 => exact FnAt.of (by k_asm) (by k_mem)); k_whole))) | ((with_reducible show wpAny _ _ (PySem.getAttr (Value.ref _) _ _) _ _ _); (k_dflt (refine' get_own ?zzk1 ?zzk2 ?zzk3 ?zzk4 ?zzk5 ?zzk6 ?zzk7 ?zzk8 ?zzk9 ?_; (case zzk1 => k_asm); (case zzk2 => k_asm); (case zzk3 => k_inst); (case zzk4 => k_is); (case zzk5 => k_is); (case zzk6 => k_is); (case zzk7 => k_is); (case zzk8 => first | assumption | k_get); (case zzk9 => k_handed); k_whole))) | ((with_reducible show wpAny _ _ (PySem.execs (_ :: _) _) _ _ _); ((with_reducible refine wpAny_execs_cons ?_); (try dsimp only); (try k_fold))) | walk1)) | (leave1; walk_say "STEP leave1"; try dsimp only)))
        (rename News _ _ _ _ => lN9)
        refine' wf_w (by k_asm) (by k_asm) (by k_asm) lN9 (by k_asm) (by first | exact rfl | assumption) (by rfl) hM4 q3 q2 hd0 hval hx0 (by decide) (by decide) a0 a1 b0 b1 (by ktr_room) (by ktr_units) ?_
        intro b hA tkA FA NA hb
        repeat' (first | (k_unfold; (try dsimp only)) | (k_end; wrow_close) | ((with_reducible show wpAny _ _ (PySem.setAttr (Value.ref _) _ _) _ _ _); (k_dflt (refine' set_dict ?zzk1 ?zzk2 ?zzk3 ?zzk4 ?zzk5 ?zzk6 ?zzk7 ?zzk8 ?zzk9 ?zzk10 ?zzk11 ?zzk12 ?zzk13 ?_; (case zzk1 => k_asm); (case zzk2 => k_asm); (case zzk3 => k_asm); (case zzk4 => k_inst); (case zzk5 => exact rfl); (case zzk6 => k_is); (case zzk7 => k_is); (case zzk8 => k_is); (case zzk9 => k_is); (case zzk10 => exact getL_some (by assumption)); (case zzk11 => exact rfl); (case zzk12 => k_upd); (case zzk13 => (refine Nat.le_trans (putL_len _ _ _ _ _) ?_; omega)); k_whole); intro h' F' N'; (try k_sweep))) | (((with_reducible show wpAny _ _ (subscriptTail _ _ (Value.ref _) (Value.int _ _)) _ _ _); k_dflt (refine' kda_item (knd := PySem.intKind _ _) ?zzN ?zzm ?zzd ?zzk ?zzv ?_ ?zzhs ?zzhg; (case zzN => k_asm); (case zzm => k_mem); (case zzd => assumption); (case zzk => exact intKind_is _ _ _ _); (case zzv => assumption); (case zzhs => with_unfolding_all rfl); (case zzhg => (intro _; with_unfolding_all rfl)); k_whole))) | ((with_reducible show wpAny _ _ (PySem.callWith _ (Value.ref _) _ _ _) _ _ _); (k_dflt (refine' callWith_F ?zzk1 ?_; (case zzk1 => exact FnAt.of (by k_asm) (by k_mem)); k_whole))) | ((with_reducible show wpAny _ _ (PySem.getAttr (Value.ref _) _ _) _ _ _); (k_dflt (refine' get_own ?zzk1 ?zzk2 ?zzk3 ?zzk4 ?zzk5 ?zzk6 ?zzk7 ?zzk8 ?zzk9 ?_; (case zzk1 => k_asm); (case zzk2 => k_asm); (case zzk3 => k_inst); (case zzk4 => k_is); (case zzk5 => k_is); (case zzk6 => k_is); (case zzk7 => k_is); (case zzk8 => first | assumption | k_get); (case zzk9 => k_handed); k_whole))) | ((with_reducible show wpAny _ _ (PySem.execs (_ :: _) _) _ _ _); ((with_reducible refine wpAny_execs_cons ?_); (try dsimp only); (try k_fold))) | walk1 | (dsimp only; (first | ((with_reducible show wpAny _ _ (PySem.setAttr (Value.ref _) _ _) _ _ _); (k_dflt (refine' set_dict ?zzk1 ?zzk2 ?zzk3 ?zzk4 ?zzk5 ?zzk6 ?zzk7 ?zzk8 ?zzk9 ?zzk10 ?zzk11 ?zzk12 ?zzk13 ?_; (case zzk1 => k_asm); (case zzk2 => k_asm); (case zzk3 => k_asm); (case zzk4 => k_inst); (case zzk5 => exact rfl); (case zzk6 => k_is); (case zzk7 => k_is); (case zzk8 => k_is); (case zzk9 => k_is); (case zzk10 => exact getL_some (by assumption)); (case zzk11 => exact rfl); (case zzk12 => k_upd); (case zzk13 => (refine Nat.le_trans (putL_len _ _ _ _ _) ?_; omega)); k_whole); intro h' F' N'; (try k_sweep))) | (((with_reducible show wpAny _ _ (subscriptTail _ _ (Value.ref _) (Value.int _ _)) _ _ _); k_dflt (refine' kda_item (knd := PySem.intKind _ _) ?zzN ?zzm ?zzd ?zzk ?zzv ?_ ?zzhs ?zzhg; (case zzN => k_asm); (case zzm => k_mem); (case zzd => assumption); (case zzk => exact intKind_is _ _ _ _); (case zzv => assumption); (case zzhs => with_unfolding_all rfl); (case zzhg => (intro _; with_unfolding_all rfl)); k_whole))) | ((with_reducible show wpAny _ _ (PySem.callWith _ (Value.ref _) _ _ _) _ _ _); (k_dflt (refine' callWith_F ?zzk1 ?_; (case zzk1 => exact FnAt.of (by k_asm) (by k_mem)); k_whole))) | ((with_reducible show wpAny _ _ (PySem.getAttr (Value.ref _) _ _) _ _ _); (k_dflt (refine' get_own ?zzk1 ?zzk2 ?zzk3 ?zzk4 ?zzk5 ?zzk6 ?zzk7 ?zzk8 ?zzk9 ?_; (case zzk1 => k_asm); (case zzk2 => k_asm); (case zzk3 => k_inst); (case zzk4 => k_is); (case zzk5 => k_is); (case zzk6 => k_is); (case zzk7 => k_is); (case zzk8 => first | assumption | k_get); (case zzk9 => k_handed); k_whole))) | ((with_reducible show wpAny _ _ (PySem.execs (_ :: _) _) _ _ _); ((with_reducible refine wpAny_execs_cons ?_); (try dsimp only); (try k_fold))) | walk1)) | (leave1; walk_say "STEP leave1"; try dsimp only) | fail "no step")
        · exact wf_no hb hxs (by assumption)
        · (rename News _ _ _ _ => lN9)
          refine' oth_fin (st := ["key", "known_ones"]) (es := es) (by k_asm) lN9 ?_ (getL_put _ _ _ _ (by rfl) _) (putL_len _ _ _ _ _) hel hown hr4 (.tail _ (.tail _ (.tail _ (.head _)))) (fun p hp => .tail _ (.tail _ (.tail _ (.tail _ hp))))
          intro z hz
          simp at hz
          simp [hz])
    case done =>
      intro u nx h7 tk7 ⟨es, nT, w0, enx, hgw, hel⟩ F7 N7
      subst enx
      dsimp only
      repeat' ((fail_if_success (with_reducible show wpAny _ _ (PySem.exec (PySem.Stmt.For _ _ _ _ _) _) _ _ _)); (first | (k_unfold; (try dsimp only)) | (k_end; wrow_close) | ((with_reducible show wpAny _ _ (PySem.setAttr (Value.ref _) _ _) _ _ _); (k_dflt (refine' set_dict ?zzk1 ?zzk2 ?zzk3 ?zzk4 ?zzk5 ?zzk6 ?zzk7 ?zzk8 ?zzk9 ?zzk10 ?zzk11 ?zzk12 ?zzk13 ?_; (case zzk1 => k_asm); (case zzk2 => k_asm); (case zzk3 => k_asm); (case zzk4 => k_inst); (case zzk5 => exact rfl); (case zzk6 => k_is); (case zzk7 => k_is); (case zzk8 => k_is); (case zzk9 => k_is); (case zzk10 => exact getL_some (by assumption)); (case zzk11 => exact rfl); (case zzk12 => k_upd); (case zzk13 => (refine Nat.le_trans (putL_len _ _ _ _ _) ?_; omega)); k_whole); intro h' F' N'; (try k_sweep))) | (((with_reducible show wpAny _ _ (subscriptTail _ _ (Value.ref _) (Value.int _ _)) _ _ _); k_dflt (refine' kda_item (knd := PySem.intKind _ _) ?zzN ?zzm ?zzd ?zzk ?zzv ?_ ?zzhs ?zzhg; (case zzN => k_asm); (case zzm => k_mem); (case zzd => assumption); (case zzk => exact intKind_is _ _ _ _); (case zzv => assumption); (case zzhs => with_unfolding_all rfl); (case zzhg => (intro _; with_unfolding_all rfl)); k_whole))) | ((with_reducible show wpAny _ _ (PySem.callWith _ (Value.ref _) _ _ _) _ _ _); (k_dflt (refine' callWith_F ?zzk1 ?_; (case zzk1 => exact FnAt.of (by k_asm) (by k_mem)); k_whole))) | ((with_reducible show wpAny _ _ (PySem.getAttr (Value.ref _) _ _) _ _ _); (k_dflt (refine' get_own ?zzk1 ?zzk2 ?zzk3 ?zzk4 ?zzk5 ?zzk6 ?zzk7 ?zzk8 ?zzk9 ?_; (case zzk1 => k_asm); (case zzk2 => k_asm); (case zzk3 => k_inst); (case zzk4 => k_is); (case zzk5 => k_is); (case zzk6 => k_is); (case zzk7 => k_is); (case zzk8 => first | assumption | k_get); (case zzk9 => k_handed); k_whole))) | ((with_reducible show wpAny _ _ (PySem.execs (_ :: _) _) _ _ _); ((with_reducible refine wpAny_execs_cons ?_); (try dsimp only); (try k_fold))) | walk1 | (dsimp only; (first | ((with_reducible show wpAny _ _ (PySem.setAttr (Value.ref _) _ _) _ _ _); (k_dflt (refine' set_dict ?zzk1 ?zzk2 ?zzk3 ?zzk4 ?zzk5 ?zzk6 ?zzk7 ?zzk8 ?zzk9 ?zzk10 ?zzk11 ?zzk12 ?zzk13 ?_; (case zzk1 => k_asm); (case zzk2 => k_asm); (case zzk3 => k_asm); (case zzk4 => k_inst); (case zzk5 => exact rfl); (case zzk6 => k_is); (case zzk7 => k_is); (case zzk8 => k_is); (case zzk9 => k_is); (case zzk10 => exact getL_some (by assumption)); (case zzk11 => exact rfl); (case zzk12 => k_upd); (case zzk13 => (refine Nat.le_trans (putL_len _ _ _ _ _) ?_; omega)); k_whole); intro h' F' N'; (try k_sweep))) | (((with_reducible show wpAny _ _ (subscriptTail _ _ (Value.ref _) (Value.int _ _)) _ _ _); k_dflt (refine' kda_item (knd := PySem.intKind _ _) ?zzN ?zzm ?zzd ?zzk ?zzv ?_ ?zzhs ?zzhg; (case zzN => k_asm); (case zzm => k_mem); (case zzd => assumption); (case zzk => exact intKind_is _ _ _ _); (case zzv => assumption); (case zzhs => with_unfolding_all rfl); (case zzhg => (intro _; with_unfolding_all rfl)); k_whole))) | ((with_reducible show wpAny _ _ (PySem.callWith _ (Value.ref _) _ _ _) _ _ _); (k_dflt (refine' callWith_F ?zzk1 ?_; (case zzk1 => exact FnAt.of (by k_asm) (by k_mem)); k_whole))) | ((with_reducible show wpAny _ _ (PySem.getAttr (Value.ref _) _ _) _ _ _); (k_dflt (refine' get_own ?zzk1 ?zzk2 ?zzk3 ?zzk4 ?zzk5 ?zzk6 ?zzk7 ?zzk8 ?zzk9 ?_; (case zzk1 => k_asm); (case zzk2 => k_asm); (case zzk3 => k_inst); (case zzk4 => k_is); (case zzk5 => k_is); (case zzk6 => k_is); (case zzk7 => k_is); (case zzk8 => first | assumption | k_get); (case zzk9 => k_handed); k_whole))) | ((with_reducible show wpAny _ _ (PySem.execs (_ :: _) _) _ _ _); ((with_reducible refine wpAny_execs_cons ?_); (try dsimp only); (try k_fold))) | walk1)) | (leave1; walk_say "STEP leave1"; try dsimp only)))
      (rename Fr _ _ _ _ => lF)
      refine' For_invVF lF ?kf1 ?kf2 ?_
      case kf1 => exact rfl
      case kf2 => exact rfl
      repeat' ((fail_if_success (with_reducible show wpAny _ _ (PySem.pyIter (Value.ref _)) _ _ _)); (first | (k_unfold; (try dsimp only)) | (k_end; wrow_close) | ((with_reducible show wpAny _ _ (PySem.setAttr (Value.ref _) _ _) _ _ _); (k_dflt (refine' set_dict ?zzk1 ?zzk2 ?zzk3 ?zzk4 ?zzk5 ?zzk6 ?zzk7 ?zzk8 ?zzk9 ?zzk10 ?zzk11 ?zzk12 ?zzk13 ?_; (case zzk1 => k_asm); (case zzk2 => k_asm); (case zzk3 => k_asm); (case zzk4 => k_inst); (case zzk5 => exact rfl); (case zzk6 => k_is); (case zzk7 => k_is); (case zzk8 => k_is); (case zzk9 => k_is); (case zzk10 => exact getL_some (by assumption)); (case zzk11 => exact rfl); (case zzk12 => k_upd); (case zzk13 => (refine Nat.le_trans (putL_len _ _ _ _ _) ?_; omega)); k_whole); intro h' F' N'; (try k_sweep))) | (((with_reducible show wpAny _ _ (subscriptTail _ _ (Value.ref _) (Value.int _ _)) _ _ _); k_dflt (refine' kda_item (knd := PySem.intKind _ _) ?zzN ?zzm ?zzd ?zzk ?zzv ?_ ?zzhs ?zzhg; (case zzN => k_asm); (case zzm => k_mem); (case zzd => assumption); (case zzk => exact intKind_is _ _ _ _); (case zzv => assumption); (case zzhs => with_unfolding_all rfl); (case zzhg => (intro _; with_unfolding_all rfl)); k_whole))) | ((with_reducible show wpAny _ _ (PySem.callWith _ (Value.ref _) _ _ _) _ _ _); (k_dflt (refine' callWith_F ?zzk1 ?_; (case zzk1 => exact FnAt.of (by k_asm) (by k_mem)); k_whole))) | ((with_reducible show wpAny _ _ (PySem.getAttr (Value.ref _) _ _) _ _ _); (k_dflt (refine' get_own ?zzk1 ?zzk2 ?zzk3 ?zzk4 ?zzk5 ?zzk6 ?zzk7 ?zzk8 ?zzk9 ?_; (case zzk1 => k_asm); (case zzk2 => k_asm); (case zzk3 => k_inst); (case zzk4 => k_is); (case zzk5 => k_is); (case zzk6 => k_is); (case zzk7 => k_is); (case zzk8 => first | assumption | k_get); (case zzk9 => k_handed); k_whole))) | ((with_reducible show wpAny _ _ (PySem.execs (_ :: _) _) _ _ _); ((with_reducible refine wpAny_execs_cons ?_); (try dsimp only); (try k_fold))) | walk1 | (dsimp only; (first | ((with_reducible show wpAny _ _ (PySem.setAttr (Value.ref _) _ _) _ _ _); (k_dflt (refine' set_dict ?zzk1 ?zzk2 ?zzk3 ?zzk4 ?zzk5 ?zzk6 ?zzk7 ?zzk8 ?zzk9 ?zzk10 ?zzk11 ?zzk12 ?zzk13 ?_; (case zzk1 => k_asm); (case zzk2 => k_asm); (case zzk3 => k_asm); (case zzk4 => k_inst); (case zzk5 => exact rfl); (case zzk6 => k_is); (case zzk7 => k_is); (case zzk8 => k_is); (case zzk9 => k_is); (case zzk10 => exact getL_some (by assumption)); (case zzk11 => exact rfl); (case zzk12 => k_upd); (case zzk13 => (refine Nat.le_trans (putL_len _ _ _ _ _) ?_; omega)); k_whole); intro h' F' N'; (try k_sweep))) | (((with_reducible show wpAny _ _ (subscriptTail _ _ (Value.ref _) (Value.int _ _)) _ _ _); k_dflt (refine' kda_item (knd := PySem.intKind _ _) ?zzN ?zzm ?zzd ?zzk ?zzv ?_ ?zzhs ?zzhg; (case zzN => k_asm); (case zzm => k_mem); (case zzd => assumption); (case zzk => exact intKind_is _ _ _ _); (case zzv => assumption); (case zzhs => with_unfolding_all rfl); (case zzhg => (intro _; with_unfolding_all rfl)); k_whole))) | ((with_reducible show wpAny _ _ (PySem.callWith _ (Value.ref _) _ _ _) _ _ _); (k_dflt (refine' callWith_F ?zzk1 ?_; (case zzk1 => exact FnAt.of (by k_asm) (by k_mem)); k_whole))) | ((with_reducible show wpAny _ _ (PySem.getAttr (Value.ref _) _ _) _ _ _); (k_dflt (refine' get_own ?zzk1 ?zzk2 ?zzk3 ?zzk4 ?zzk5 ?zzk6 ?zzk7 ?zzk8 ?zzk9 ?_; (case zzk1 => k_asm); (case zzk2 => k_asm); (case zzk3 => k_inst); (case zzk4 => k_is); (case zzk5 => k_is); (case zzk6 => k_is); (case zzk7 => k_is); (case zzk8 => first | assumption | k_get); (case zzk9 => k_handed); k_whole))) | ((with_reducible show wpAny _ _ (PySem.execs (_ :: _) _) _ _ _); ((with_reducible refine wpAny_execs_cons ?_); (try dsimp only); (try k_fold))) | walk1)) | (leave1; walk_say "STEP leave1"; try dsimp only)))
      (rename Fr _ _ _ _ => lF)
      (rename News _ _ _ (_ :: _ :: _ :: _ :: _) => lN)
      have hb1 := news_sep lN (List.Mem.head _) (List.Mem.tail _ (List.Mem.tail _ (List.Mem.tail _ (List.Mem.head _)))) (by simp)
      have hb2 := news_sep lN (List.Mem.tail _ (List.Mem.head _)) (List.Mem.tail _ (List.Mem.tail _ (List.Mem.tail _ (List.Mem.head _)))) (by simp)
      have hb3 := news_sep lN (List.Mem.tail _ (List.Mem.tail _ (List.Mem.head _))) (List.Mem.tail _ (List.Mem.tail _ (List.Mem.tail _ (List.Mem.head _)))) (by simp)
      obtain ⟨r5, N11, off5, put⟩ := split1 lN (List.Mem.tail _ (List.Mem.tail _ (List.Mem.tail _ (List.Mem.head _))))
      have c0 := put _ (List.Mem.head _) hb1
      have c1 := put _ (List.Mem.tail _ (List.Mem.head _)) hb2
      have c2 := put _ (List.Mem.tail _ (List.Mem.tail _ (List.Mem.head _))) hb3
      have p5 : ∀ p ∈ r3, p ∈ r5 := fun p hp => put p (.tail _ (.tail _ (.tail _ (.tail _ hp)))) (off3 p hp dt (by simp))
      clear put
      refine iter_listS (vs := [_, _]) (nn := 0) ["wait"] (OthJ dt r5 (es.length)) (by rfl) (List.Mem.tail _ c0) lF N11 ⟨es, nT, w0, rfl, hgw, Nat.le_refl _⟩ ?turn2 ?done2
      case turn2 =>
        intro i v u2 nx h8 tk8 own2 hvi hown2 hlx ⟨es2, nT2, w2, enx, hgw2, hel2⟩ F8 N8
        subst enx
        simp only [List.cons_append] at N8
        have hi2 : i < 2 := (List.getElem?_eq_some_iff.mp hvi).1
        obtain ⟨tt, tg, tw, n9, rfl, htt, htg⟩ : ∃ tt tg tw n, v = Value.ref tt ∧ (tt, tupOf [.str tg tw] n) ∈ r5 ∧ (tg = "delay" ∨ tg = "join") := by
          rcases List.mem_cons.mp (List.mem_of_getElem? hvi) with rfl | hv2
          · exact ⟨_, _, _, _, rfl, c2, .inl rfl⟩
          · rw [List.mem_singleton.mp hv2]
            exact ⟨_, _, _, _, rfl, c1, .inr rfl⟩
        obtain ⟨r6, hr6⟩ : ∃ r6, r6 = r5 ++ own2 := ⟨_, rfl⟩
        rw [← hr6] at N8
        have s6 : ∀ p ∈ r5, p ∈ r6 := fun p hp => by rw [hr6]; exact List.mem_append.mpr (.inl hp)
        have off6 : OwnOff r6 [dt] := by
          intro p hp b hb
          rw [hr6] at hp
          rcases List.mem_append.mp hp with h | h
          · exact off5 p h b hb
          · refine hown2 p h b ?_
            simp only [List.mem_singleton] at hb
            simp only [List.map_cons, List.mem_cons, hb, true_or]
        replace htt := s6 _ htt
        have q9 := s6 _ (p5 _ q3)
        have hes9 : es2.length ≤ 60 := by omega
        clear lN lF N11
        repeat' ((fail_if_success (with_reducible show wpAny _ _ (PySem.setAttr _ _ _) _ _ _)); (first | (k_unfold; (try dsimp only)) | (k_end; wrow_close) | ((with_reducible show wpAny _ _ (PySem.setAttr (Value.ref _) _ _) _ _ _); (k_dflt (refine' set_dict ?zzk1 ?zzk2 ?zzk3 ?zzk4 ?zzk5 ?zzk6 ?zzk7 ?zzk8 ?zzk9 ?zzk10 ?zzk11 ?zzk12 ?zzk13 ?_; (case zzk1 => k_asm); (case zzk2 => k_asm); (case zzk3 => k_asm); (case zzk4 => k_inst); (case zzk5 => exact rfl); (case zzk6 => k_is); (case zzk7 => k_is); (case zzk8 => k_is); (case zzk9 => k_is); (case zzk10 => exact getL_some (by assumption)); (case zzk11 => exact rfl); (case zzk12 => k_upd); (case zzk13 => (refine Nat.le_trans (putL_len _ _ _ _ _) ?_; omega)); k_whole); intro h' F' N'; (try k_sweep))) | (((with_reducible show wpAny _ _ (subscriptTail _ _ (Value.ref _) (Value.int _ _)) _ _ _); k_dflt (refine' kda_item (knd := PySem.intKind _ _) ?zzN ?zzm ?zzd ?zzk ?zzv ?_ ?zzhs ?zzhg; (case zzN => k_asm); (case zzm => k_mem); (case zzd => assumption); (case zzk => exact intKind_is _ _ _ _); (case zzv => assumption); (case zzhs => with_unfolding_all rfl); (case zzhg => (intro _; with_unfolding_all rfl)); k_whole))) | ((with_reducible show wpAny _ _ (PySem.callWith _ (Value.ref _) _ _ _) _ _ _); (k_dflt (refine' callWith_F ?zzk1 ?_; (case zzk1 => exact FnAt.of (by k_asm) (by k_mem)); k_whole))) | ((with_reducible show wpAny _ _ (PySem.getAttr (Value.ref _) _ _) _ _ _); (k_dflt (refine' get_own ?zzk1 ?zzk2 ?zzk3 ?zzk4 ?zzk5 ?zzk6 ?zzk7 ?zzk8 ?zzk9 ?_; (case zzk1 => k_asm); (case zzk2 => k_asm); (case zzk3 => k_inst); (case zzk4 => k_is); (case zzk5 => k_is); (case zzk6 => k_is); (case zzk7 => k_is); (case zzk8 => first | assumption | k_get); (case zzk9 => k_handed); k_whole))) | ((with_reducible show wpAny _ _ (PySem.execs (_ :: _) _) _ _ _); ((with_reducible refine wpAny_execs_cons ?_); (try dsimp only); (try k_fold))) | walk1 | (dsimp only; (first | ((with_reducible show wpAny _ _ (PySem.setAttr (Value.ref _) _ _) _ _ _); (k_dflt (refine' set_dict ?zzk1 ?zzk2 ?zzk3 ?zzk4 ?zzk5 ?zzk6 ?zzk7 ?zzk8 ?zzk9 ?zzk10 ?zzk11 ?zzk12 ?zzk13 ?_; (case zzk1 => k_asm); (case zzk2 => k_asm); (case zzk3 => k_asm); (case zzk4 => k_inst); (case zzk5 => exact rfl); (case zzk6 => k_is); (case zzk7 => k_is); (case zzk8 => k_is); (case zzk9 => k_is); (case zzk10 => exact getL_some (by assumption)); (case zzk11 => exact rfl); (case zzk12 => k_upd); (case zzk13 => (refine Nat.le_trans (putL_len _ _ _ _ _) ?_; omega)); k_whole); intro h' F' N'; (try k_sweep))) | (((with_reducible show wpAny _ _ (subscriptTail _ _ (Value.ref _) (Value.int _ _)) _ _ _); k_dflt (refine' kda_item (knd := PySem.intKind _ _) ?zzN ?zzm ?zzd ?zzk ?zzv ?_ ?zzhs ?zzhg; (case zzN => k_asm); (case zzm => k_mem); (case zzd => assumption); (case zzk => exact intKind_is _ _ _ _); (case zzv => assumption); (case zzhs => with_unfolding_all rfl); (case zzhg => (intro _; with_unfolding_all rfl)); k_whole))) | ((with_reducible show wpAny _ _ (PySem.callWith _ (Value.ref _) _ _ _) _ _ _); (k_dflt (refine' callWith_F ?zzk1 ?_; (case zzk1 => exact FnAt.of (by k_asm) (by k_mem)); k_whole))) | ((with_reducible show wpAny _ _ (PySem.getAttr (Value.ref _) _ _) _ _ _); (k_dflt (refine' get_own ?zzk1 ?zzk2 ?zzk3 ?zzk4 ?zzk5 ?zzk6 ?zzk7 ?zzk8 ?zzk9 ?_; (case zzk1 => k_asm); (case zzk2 => k_asm); (case zzk3 => k_inst); (case zzk4 => k_is); (case zzk5 => k_is); (case zzk6 => k_is); (case zzk7 => k_is); (case zzk8 => first | assumption | k_get); (case zzk9 => k_handed); k_whole))) | ((with_reducible show wpAny _ _ (PySem.execs (_ :: _) _) _ _ _); ((with_reducible refine wpAny_execs_cons ?_); (try dsimp only); (try k_fold))) | walk1)) | (leave1; walk_say "STEP leave1"; try dsimp only)))
        (first | ((with_reducible show wpAny _ _ (PySem.setAttr (Value.ref _) _ _) _ _ _); (k_dflt (refine' set_dict ?zzk1 ?zzk2 ?zzk3 ?zzk4 ?zzk5 ?zzk6 ?zzk7 ?zzk8 ?zzk9 ?zzk10 ?zzk11 ?zzk12 ?zzk13 ?_; (case zzk1 => k_asm); (case zzk2 => k_asm); (case zzk3 => k_asm); (case zzk4 => k_inst); (case zzk5 => exact rfl); (case zzk6 => k_is); (case zzk7 => k_is); (case zzk8 => k_is); (case zzk9 => k_is); (case zzk10 => exact getL_some (by assumption)); (case zzk11 => exact rfl); (case zzk12 => k_upd); (case zzk13 => (refine Nat.le_trans (putL_len _ _ _ _ _) ?_; omega)); k_whole); intro h' F' N'; (try k_sweep))) | walk_at "setAttr ref")
        repeat' ((fail_if_success (with_reducible show wpAny _ _ (call (Value.ref 70) _) _ _ _)); (first | (k_unfold; (try dsimp only)) | (k_end; wrow_close) | ((with_reducible show wpAny _ _ (PySem.setAttr (Value.ref _) _ _) _ _ _); (k_dflt (refine' set_dict ?zzk1 ?zzk2 ?zzk3 ?zzk4 ?zzk5 ?zzk6 ?zzk7 ?zzk8 ?zzk9 ?zzk10 ?zzk11 ?zzk12 ?zzk13 ?_; (case zzk1 => k_asm); (case zzk2 => k_asm); (case zzk3 => k_asm); (case zzk4 => k_inst); (case zzk5 => exact rfl); (case zzk6 => k_is); (case zzk7 => k_is); (case zzk8 => k_is); (case zzk9 => k_is); (case zzk10 => exact getL_some (by assumption)); (case zzk11 => exact rfl); (case zzk12 => k_upd); (case zzk13 => (refine Nat.le_trans (putL_len _ _ _ _ _) ?_; omega)); k_whole); intro h' F' N'; (try k_sweep))) | (((with_reducible show wpAny _ _ (subscriptTail _ _ (Value.ref _) (Value.int _ _)) _ _ _); k_dflt (refine' kda_item (knd := PySem.intKind _ _) ?zzN ?zzm ?zzd ?zzk ?zzv ?_ ?zzhs ?zzhg; (case zzN => k_asm); (case zzm => k_mem); (case zzd => assumption); (case zzk => exact intKind_is _ _ _ _); (case zzv => assumption); (case zzhs => with_unfolding_all rfl); (case zzhg => (intro _; with_unfolding_all rfl)); k_whole))) | ((with_reducible show wpAny _ _ (PySem.callWith _ (Value.ref _) _ _ _) _ _ _); (k_dflt (refine' callWith_F ?zzk1 ?_; (case zzk1 => exact FnAt.of (by k_asm) (by k_mem)); k_whole))) | ((with_reducible show wpAny _ _ (PySem.getAttr (Value.ref _) _ _) _ _ _); (k_dflt (refine' get_own ?zzk1 ?zzk2 ?zzk3 ?zzk4 ?zzk5 ?zzk6 ?zzk7 ?zzk8 ?zzk9 ?_; (case zzk1 => k_asm); (case zzk2 => k_asm); (case zzk3 => k_inst); (case zzk4 => k_is); (case zzk5 => k_is); (case zzk6 => k_is); (case zzk7 => k_is); (case zzk8 => first | assumption | k_get); (case zzk9 => k_handed); k_whole))) | ((with_reducible show wpAny _ _ (PySem.execs (_ :: _) _) _ _ _); ((with_reducible refine wpAny_execs_cons ?_); (try dsimp only); (try k_fold))) | walk1 | (dsimp only; (first | ((with_reducible show wpAny _ _ (PySem.setAttr (Value.ref _) _ _) _ _ _); (k_dflt (refine' set_dict ?zzk1 ?zzk2 ?zzk3 ?zzk4 ?zzk5 ?zzk6 ?zzk7 ?zzk8 ?zzk9 ?zzk10 ?zzk11 ?zzk12 ?zzk13 ?_; (case zzk1 => k_asm); (case zzk2 => k_asm); (case zzk3 => k_asm); (case zzk4 => k_inst); (case zzk5 => exact rfl); (case zzk6 => k_is); (case zzk7 => k_is); (case zzk8 => k_is); (case zzk9 => k_is); (case zzk10 => exact getL_some (by assumption)); (case zzk11 => exact rfl); (case zzk12 => k_upd); (case zzk13 => (refine Nat.le_trans (putL_len _ _ _ _ _) ?_; omega)); k_whole); intro h' F' N'; (try k_sweep))) | (((with_reducible show wpAny _ _ (subscriptTail _ _ (Value.ref _) (Value.int _ _)) _ _ _); k_dflt (refine' kda_item (knd := PySem.intKind _ _) ?zzN ?zzm ?zzd ?zzk ?zzv ?_ ?zzhs ?zzhg; (case zzN => k_asm); (case zzm => k_mem); (case zzd => assumption); (case zzk => exact intKind_is _ _ _ _); (case zzv => assumption); (case zzhs => with_unfolding_all rfl); (case zzhg => (intro _; with_unfolding_all rfl)); k_whole))) | ((with_reducible show wpAny _ _ (PySem.callWith _ (Value.ref _) _ _ _) _ _ _); (k_dflt (refine' callWith_F ?zzk1 ?_; (case zzk1 => exact FnAt.of (by k_asm) (by k_mem)); k_whole))) | ((with_reducible show wpAny _ _ (PySem.getAttr (Value.ref _) _ _) _ _ _); (k_dflt (refine' get_own ?zzk1 ?zzk2 ?zzk3 ?zzk4 ?zzk5 ?zzk6 ?zzk7 ?zzk8 ?zzk9 ?_; (case zzk1 => k_asm); (case zzk2 => k_asm); (case zzk3 => k_inst); (case zzk4 => k_is); (case zzk5 => k_is); (case zzk6 => k_is); (case zzk7 => k_is); (case zzk8 => first | assumption | k_get); (case zzk9 => k_handed); k_whole))) | ((with_reducible show wpAny _ _ (PySem.execs (_ :: _) _) _ _ _); ((with_reducible refine wpAny_execs_cons ?_); (try dsimp only); (try k_fold))) | walk1)) | (leave1; walk_say "STEP leave1"; try dsimp only)))
        (rename News _ _ _ _ => lN9)
        refine' no_w (by k_asm) (by k_asm) (by k_asm) lN9 (by k_asm) (by first | exact rfl | assumption) (by rfl) htg q9 htt (by ktr_room) (by ktr_units) ?_
        intro hA tkA FA NA
        repeat' (first | (k_unfold; (try dsimp only)) | (k_end; wrow_close) | ((with_reducible show wpAny _ _ (PySem.setAttr (Value.ref _) _ _) _ _ _); (k_dflt (refine' set_dict ?zzk1 ?zzk2 ?zzk3 ?zzk4 ?zzk5 ?zzk6 ?zzk7 ?zzk8 ?zzk9 ?zzk10 ?zzk11 ?zzk12 ?zzk13 ?_; (case zzk1 => k_asm); (case zzk2 => k_asm); (case zzk3 => k_asm); (case zzk4 => k_inst); (case zzk5 => exact rfl); (case zzk6 => k_is); (case zzk7 => k_is); (case zzk8 => k_is); (case zzk9 => k_is); (case zzk10 => exact getL_some (by assumption)); (case zzk11 => exact rfl); (case zzk12 => k_upd); (case zzk13 => (refine Nat.le_trans (putL_len _ _ _ _ _) ?_; omega)); k_whole); intro h' F' N'; (try k_sweep))) | (((with_reducible show wpAny _ _ (subscriptTail _ _ (Value.ref _) (Value.int _ _)) _ _ _); k_dflt (refine' kda_item (knd := PySem.intKind _ _) ?zzN ?zzm ?zzd ?zzk ?zzv ?_ ?zzhs ?zzhg; (case zzN => k_asm); (case zzm => k_mem); (case zzd => assumption); (case zzk => exact intKind_is _ _ _ _); (case zzv => assumption); (case zzhs => with_unfolding_all rfl); (case zzhg => (intro _; with_unfolding_all rfl)); k_whole))) | ((with_reducible show wpAny _ _ (PySem.callWith _ (Value.ref _) _ _ _) _ _ _); (k_dflt (refine' callWith_F ?zzk1 ?_; (case zzk1 => exact FnAt.of (by k_asm) (by k_mem)); k_whole))) | ((with_reducible show wpAny _ _ (PySem.getAttr (Value.ref _) _ _) _ _ _); (k_dflt (refine' get_own ?zzk1 ?zzk2 ?zzk3 ?zzk4 ?zzk5 ?zzk6 ?zzk7 ?zzk8 ?zzk9 ?_; (case zzk1 => k_asm); (case zzk2 => k_asm); (case zzk3 => k_inst); (case zzk4 => k_is); (case zzk5 => k_is); (case zzk6 => k_is); (case zzk7 => k_is); (case zzk8 => first | assumption | k_get); (case zzk9 => k_handed); k_whole))) | ((with_reducible show wpAny _ _ (PySem.execs (_ :: _) _) _ _ _); ((with_reducible refine wpAny_execs_cons ?_); (try dsimp only); (try k_fold))) | walk1 | (dsimp only; (first | ((with_reducible show wpAny _ _ (PySem.setAttr (Value.ref _) _ _) _ _ _); (k_dflt (refine' set_dict ?zzk1 ?zzk2 ?zzk3 ?zzk4 ?zzk5 ?zzk6 ?zzk7 ?zzk8 ?zzk9 ?zzk10 ?zzk11 ?zzk12 ?zzk13 ?_; (case zzk1 => k_asm); (case zzk2 => k_asm); (case zzk3 => k_asm); (case zzk4 => k_inst); (case zzk5 => exact rfl); (case zzk6 => k_is); (case zzk7 => k_is); (case zzk8 => k_is); (case zzk9 => k_is); (case zzk10 => exact getL_some (by assumption)); (case zzk11 => exact rfl); (case zzk12 => k_upd); (case zzk13 => (refine Nat.le_trans (putL_len _ _ _ _ _) ?_; omega)); k_whole); intro h' F' N'; (try k_sweep))) | (((with_reducible show wpAny _ _ (subscriptTail _ _ (Value.ref _) (Value.int _ _)) _ _ _); k_dflt (refine' kda_item (knd := PySem.intKind _ _) ?zzN ?zzm ?zzd ?zzk ?zzv ?_ ?zzhs ?zzhg; (case zzN => k_asm); (case zzm => k_mem); (case zzd => assumption); (case zzk => exact intKind_is _ _ _ _); (case zzv => assumption); (case zzhs => with_unfolding_all rfl); (case zzhg => (intro _; with_unfolding_all rfl)); k_whole))) | ((with_reducible show wpAny _ _ (PySem.callWith _ (Value.ref _) _ _ _) _ _ _); (k_dflt (refine' callWith_F ?zzk1 ?_; (case zzk1 => exact FnAt.of (by k_asm) (by k_mem)); k_whole))) | ((with_reducible show wpAny _ _ (PySem.getAttr (Value.ref _) _ _) _ _ _); (k_dflt (refine' get_own ?zzk1 ?zzk2 ?zzk3 ?zzk4 ?zzk5 ?zzk6 ?zzk7 ?zzk8 ?zzk9 ?_; (case zzk1 => k_asm); (case zzk2 => k_asm); (case zzk3 => k_inst); (case zzk4 => k_is); (case zzk5 => k_is); (case zzk6 => k_is); (case zzk7 => k_is); (case zzk8 => first | assumption | k_get); (case zzk9 => k_handed); k_whole))) | ((with_reducible show wpAny _ _ (PySem.execs (_ :: _) _) _ _ _); ((with_reducible refine wpAny_execs_cons ?_); (try dsimp only); (try k_fold))) | walk1)) | (leave1; walk_say "STEP leave1"; try dsimp only) | fail "no step")
        (rename News _ _ _ _ => lN9)
        refine' oth_fin2 (es := es2) (by k_asm) lN9 ?_ (getL_put _ _ _ _ (by rfl) _) (putL_len _ _ _ _ _) hel2 hown2 hr6 c0 (.head _) (fun p hp => .tail _ hp)
        intro z hz
        simp at hz
        simp [hz]
      case done2 =>
        intro u2 nx h8 tk8 ⟨es2, nT2, w2, enx, hgw2, hel2⟩ F8 N8
        subst enx
        dsimp only
        repeat' (first | (k_unfold; (try dsimp only)) | (k_end; wrow_close) | ((with_reducible show wpAny _ _ (PySem.setAttr (Value.ref _) _ _) _ _ _); (k_dflt (refine' set_dict ?zzk1 ?zzk2 ?zzk3 ?zzk4 ?zzk5 ?zzk6 ?zzk7 ?zzk8 ?zzk9 ?zzk10 ?zzk11 ?zzk12 ?zzk13 ?_; (case zzk1 => k_asm); (case zzk2 => k_asm); (case zzk3 => k_asm); (case zzk4 => k_inst); (case zzk5 => exact rfl); (case zzk6 => k_is); (case zzk7 => k_is); (case zzk8 => k_is); (case zzk9 => k_is); (case zzk10 => exact getL_some (by assumption)); (case zzk11 => exact rfl); (case zzk12 => k_upd); (case zzk13 => (refine Nat.le_trans (putL_len _ _ _ _ _) ?_; omega)); k_whole); intro h' F' N'; (try k_sweep))) | (((with_reducible show wpAny _ _ (subscriptTail _ _ (Value.ref _) (Value.int _ _)) _ _ _); k_dflt (refine' kda_item (knd := PySem.intKind _ _) ?zzN ?zzm ?zzd ?zzk ?zzv ?_ ?zzhs ?zzhg; (case zzN => k_asm); (case zzm => k_mem); (case zzd => assumption); (case zzk => exact intKind_is _ _ _ _); (case zzv => assumption); (case zzhs => with_unfolding_all rfl); (case zzhg => (intro _; with_unfolding_all rfl)); k_whole))) | ((with_reducible show wpAny _ _ (PySem.callWith _ (Value.ref _) _ _ _) _ _ _); (k_dflt (refine' callWith_F ?zzk1 ?_; (case zzk1 => exact FnAt.of (by k_asm) (by k_mem)); k_whole))) | ((with_reducible show wpAny _ _ (PySem.getAttr (Value.ref _) _ _) _ _ _); (k_dflt (refine' get_own ?zzk1 ?zzk2 ?zzk3 ?zzk4 ?zzk5 ?zzk6 ?zzk7 ?zzk8 ?zzk9 ?_; (case zzk1 => k_asm); (case zzk2 => k_asm); (case zzk3 => k_inst); (case zzk4 => k_is); (case zzk5 => k_is); (case zzk6 => k_is); (case zzk7 => k_is); (case zzk8 => first | assumption | k_get); (case zzk9 => k_handed); k_whole))) | ((with_reducible show wpAny _ _ (PySem.execs (_ :: _) _) _ _ _); ((with_reducible refine wpAny_execs_cons ?_); (try dsimp only); (try k_fold))) | walk1 | (dsimp only; (first | ((with_reducible show wpAny _ _ (PySem.setAttr (Value.ref _) _ _) _ _ _); (k_dflt (refine' set_dict ?zzk1 ?zzk2 ?zzk3 ?zzk4 ?zzk5 ?zzk6 ?zzk7 ?zzk8 ?zzk9 ?zzk10 ?zzk11 ?zzk12 ?zzk13 ?_; (case zzk1 => k_asm); (case zzk2 => k_asm); (case zzk3 => k_asm); (case zzk4 => k_inst); (case zzk5 => exact rfl); (case zzk6 => k_is); (case zzk7 => k_is); (case zzk8 => k_is); (case zzk9 => k_is); (case zzk10 => exact getL_some (by assumption)); (case zzk11 => exact rfl); (case zzk12 => k_upd); (case zzk13 => (refine Nat.le_trans (putL_len _ _ _ _ _) ?_; omega)); k_whole); intro h' F' N'; (try k_sweep))) | (((with_reducible show wpAny _ _ (subscriptTail _ _ (Value.ref _) (Value.int _ _)) _ _ _); k_dflt (refine' kda_item (knd := PySem.intKind _ _) ?zzN ?zzm ?zzd ?zzk ?zzv ?_ ?zzhs ?zzhg; (case zzN => k_asm); (case zzm => k_mem); (case zzd => assumption); (case zzk => exact intKind_is _ _ _ _); (case zzv => assumption); (case zzhs => with_unfolding_all rfl); (case zzhg => (intro _; with_unfolding_all rfl)); k_whole))) | ((with_reducible show wpAny _ _ (PySem.callWith _ (Value.ref _) _ _ _) _ _ _); (k_dflt (refine' callWith_F ?zzk1 ?_; (case zzk1 => exact FnAt.of (by k_asm) (by k_mem)); k_whole))) | ((with_reducible show wpAny _ _ (PySem.getAttr (Value.ref _) _ _) _ _ _); (k_dflt (refine' get_own ?zzk1 ?zzk2 ?zzk3 ?zzk4 ?zzk5 ?zzk6 ?zzk7 ?zzk8 ?zzk9 ?_; (case zzk1 => k_asm); (case zzk2 => k_asm); (case zzk3 => k_inst); (case zzk4 => k_is); (case zzk5 => k_is); (case zzk6 => k_is); (case zzk7 => k_is); (case zzk8 => first | assumption | k_get); (case zzk9 => k_handed); k_whole))) | ((with_reducible show wpAny _ _ (PySem.execs (_ :: _) _) _ _ _); ((with_reducible refine wpAny_execs_cons ?_); (try dsimp only); (try k_fold))) | walk1)) | (leave1; walk_say "STEP leave1"; try dsimp only) | fail "no step")
        exact oth_done hret (by k_asm) (by k_asm) (p5 _ q1) (p5 _ q2) (fun p hp => p5 p (p0 p hp)) off (fun p hp => p5 p (p2 p hp)) off2 hTb
end
section
open PySem PySem.W PyProof.Rows PySem.Calls PyProof.V
theorem take_facts {wj : List Value} {ns : List Int} (h : IntsAre wj ((ns ++ [0]).take (Int.toNat 40))) : ∃ ms, IntsAre wj ms ∧ 1 ≤ ms.length ∧ ms.length ≤ 40 := by
  refine ⟨_, h, ?_, ?_⟩ <;> (rw [List.length_take, List.length_append, List.length_singleton]; show _; simp; omega)
inductive JarS (jl c : Addr) (r : Led) (B : Int) : Led → Prop
  | mk (a : Int) (ta : Tok) (b : Int) (tb : Tok) (n : Nat) (a0 : 0 ≤ a) (a1 : a < 10 ^ 70) (b0 : 0 ≤ b) (b1 : b ≤ B) : JarS jl c r B ((jl, jarO a ta b tb c n) :: r)
theorem split_l {h₀ h : Heap} {L : Addr} {full : Led} (N : News h₀ L h full) (hd : Led) (hs : ∀ p ∈ hd, p ∈ full) : ∃ r, News h₀ L h (hd ++ r) ∧ OwnOff r (hd.map (·.1)) ∧ ∀ p ∈ full, (∀ b ∈ hd.map (·.1), @Ne Nat p.1 b) → p ∈ r := by
  refine ⟨but full (hd.map (·.1)), cb_drop N ?_, but_off, fun p hp x => mem_but hp x⟩
  intro p hp
  rcases List.mem_append.mp hp with h | h
  · exact hs p h
  · exact but_sub p h
theorem width_step {ws : List Int} {ys : List Value} {x : Int} {t : Tok} {i : Nat} (hys : IntsAre ys ws) (hwl : ws.length = i) (hwx : ∀ x ∈ ws, 1 ≤ x ∧ x ≤ 3) (x0 : 0 ≤ x) (x1 : x < 3) :
    ∃ ws', IntsAre (ys ++ [Value.int (1 + x) t]) ws' ∧ ws'.length = i + 1 ∧ ∀ x ∈ ws', 1 ≤ x ∧ x ≤ 3 := by
  refine ⟨ws ++ [1 + x], hys.append (.cons _ _ .nil), by simp [hwl], fun y hy => ?_⟩
  rcases List.mem_append.mp hy with h | h
  · exact hwx y h
  · rw [List.mem_singleton.mp h]; omega
theorem allLt_at {x : Addr} {l : Led} (h : AllLt x l) : ∀ p ∈ l, @LT.lt Nat _ p.1 x := tb_ltOf h
section
variable {w : World} {p : Program} {loose : List Str} {mean : ExcName → Option Value} {mg mb : Str → Option Value} {dp un : Nat} {gd : Option (List Code)} {cn : Str} {cs : Scope} {a' : Addr} {ccd : Value} {cl : List (Str × Addr)} {outer : List Env} {A₀ : Around} {base h₀ : Heap} {L : Addr} {m : Str → Option Value} {s : Shared} {Q E : Value → Shared → Prop}
theorem value_u {news : Led} {g : Obj → Led} {j : Addr} {a : Int} {ta : Tok} {b : Int} {tb : Tok} {c : Addr} {n : Nat} {wd : Int} {tc : Tok} {vs : List Value} {ns : List Int} {nn : Nat}
    (B : Below A₀ base outer h₀) (F : Fr h₀ L s.heap m) (X : (hd.heap_1 w.params).In h₀) (N : News h₀ L s.heap news) (T : Top p loose mean mg mb h₀) (hk : cs.kind = .function)
    (U : UpdF j (jarO a ta b tb c n) news g) (hc : (c, listOf vs.toArray nn) ∈ news) (hv : IntsAre vs ns) (h1 : 1 ≤ ns.length) (h2 : ns.length ≤ 40)
    (ha0 : 0 ≤ a) (ha1 : a < 10 ^ 70) (hb0 : 0 ≤ b) (hb1 : b ≤ 990) (hw0 : 1 ≤ wd) (hw1 : wd ≤ 3)
    (hd : dp + 2 < recursionLimit) (hu : un + 96 < cLine)
    (k : ∀ x y z t1 t2 t3 a1 ta1 b1 tb1 n1 h' tk', 0 ≤ y → y < 2 ^ wd.toNat → 0 ≤ z → z < 2 ^ wd.toNat → 0 ≤ a1 → a1 < 10 ^ 70 → 0 ≤ b1 → b1 ≤ b + 2 → AllLt x (g (jarO a1 ta1 b1 tb1 c n1)) → Fr h₀ L h' m → News h₀ L h' ((x, tupOf [.int wd t1, .int y t2, .int z t3] 0) :: g (jarO a1 ta1 b1 tb1 c n1)) → Q (.ref x) { s with heap := h', toks := tk' }) :
    wpAny (model prg w) (ktrTop dp un gd cn cs L a' ccd cl outer) (call (.ref 112) [.ref j, .int wd tc]) Q E s := by
  obtain ⟨pre, post, rfl, hg, o1, o2⟩ := U.split
  have hc' : (c, listOf vs.toArray nn) ∈ pre ++ post := by
    rcases List.mem_append.mp hc with h | h
    · exact List.mem_append.mpr (.inl h)
    · rcases List.mem_cons.mp h with h | h
      · exact (jar_not_ints hv (congrArg Prod.snd h)).elim
      · exact List.mem_append.mpr (.inr h)
  have off : OwnOff (pre ++ post) [j] := by
    intro p hp b hb
    rw [List.mem_singleton.mp hb]
    exact (List.mem_append.mp hp).elim (o1 p) (o2 p)
  have N' : News h₀ L s.heap ((j, jarO a ta b tb c n) :: (pre ++ post)) := fun p hp => N p (by
    rcases List.mem_cons.mp hp with h | h
    · rw [h]; simp
    · rcases List.mem_append.mp h with h | h <;> simp [h])
  refine value_c w j a ta b tb c n wd tc (pre ++ post) vs ns nn off hc' hv h1 h2 ha0 ha1 hb0 hb1 hw0 hw1 p loose mean mg mb dp un gd cn cs a' ccd cl outer A₀ base h₀ L m s Q E B F X N' T hk hd hu ?_
  rintro r news' h' tk' F' N'' ⟨x, y, z, t1, t2, t3, a1, ta1, b1, tb1, n1, rfl, y0, y1, z0, z1, rfl, jx, ax, p0, p1, q0, q1⟩
  refine k x y z t1 t2 t3 a1 ta1 b1 tb1 n1 h' tk' y0 y1 z0 z1 p0 p1 q0 q1 ?_ F' ?_
  · rw [hg]
    refine allLt_of fun p hp => ?_
    rcases List.mem_append.mp hp with h | h
    · exact tb_ltOf ax p (List.mem_append.mpr (.inl h))
    · rcases List.mem_cons.mp h with rfl | h
      · exact jx
      · exact tb_ltOf ax p (List.mem_append.mpr (.inr h))
  · rw [hg]
    intro p hp
    refine N'' p ?_
    rcases List.mem_cons.mp hp with h | hp
    · rw [h]; simp
    · rcases List.mem_append.mp hp with h | h
      · simp [h]
      · rcases List.mem_cons.mp h with h | h
        · rw [h]; simp
        · simp [h]
theorem wait_w {nk : Int} {P : V3 → Prop} {hl evl chl : Addr} {ho : Obj} {kvs : List (Int × Value)} {hv : Int → V3} {ps : Array Value} {full : Led} (rest : Led) {evs : List Ev} {vch : List Value} {nch : Nat}
    (B : Below A₀ base outer h₀) (F : Fr h₀ L s.heap m) (X : (hd.heap_1 w.params).In h₀) (N : News h₀ L s.heap full) (T : Top p loose mean mg mb h₀) (hk : cs.kind = .function)
    (m1 : (128, tabObj ps) ∈ full) (m2 : (hl, ho) ∈ full) (hr : ∀ p ∈ rest, p ∈ full)
    (hd0 : ho.IsDictOf (intKind prg w) kvs) (hkl : kvs.length ≤ 10) (hev : EvsAt rest evl evs) (hok : ∀ e ∈ evs, EvOk nk e) (hlen : evs.length ≤ 4) (hheld : HeldOk nk kvs hv rest) (hP : ∀ k, 0 ≤ k → k < nk → P (hv k)) (hch : (chl, listOf vch.toArray nch) ∈ rest) (hcl : vch.length ≤ 8)
    (hrow : ∀ v ∈ vch, RowAt w nk P rest v) (hT : TabS ps rest) (off : OwnOff rest [128, hl]) (hne : @Ne Nat hl 128)
    (hdp : dp + 16 < recursionLimit) (hun : un + 512 < cLine)
    (k : ∀ ps' ho' kvs' hv' rest' h' tk', Fr h₀ L h' m → News h₀ L h' ((128, tabObj ps') :: (hl, ho') :: rest') → (∀ p ∈ rest, p ∈ rest') → ho'.IsDictOf (intKind prg w) kvs' → HeldOk nk kvs' hv' rest' → (∀ k, 0 ≤ k → k < nk → P (hv' k)) → TabS ps' rest' → OwnOff rest' [128, hl] → Q (.bool true) { s with heap := h', toks := tk' }) :
    wpAny (model prg w) (ktrTop dp un gd cn cs L a' ccd cl outer) (call (.ref 138) [.ref hl, .ref evl, .ref chl]) Q E s := by
  refine Ctr.use B F X (cb_drop N ?_ : News h₀ L s.heap ((128, tabObj ps) :: (hl, ho) :: rest)) T hk (wait_c w nk P hl evl chl ho kvs hv ps rest evs vch nch hd0 hkl hev hok hlen hheld hP hch hcl hrow hT off hne) hdp hun ?_
  · intro p hp
    rcases List.mem_cons.mp hp with rfl | hp
    · exact m1
    · rcases List.mem_cons.mp hp with rfl | hp
      · exact m2
      · exact hr p hp
  · rintro r news' h' tk' F' N' ⟨ps', ho', kvs', hv', rest', rfl, rfl, s1, d1, hh, hP', hT', off'⟩
    exact k ps' ho' kvs' hv' rest' h' tk' F' N' s1 d1 (hh.mono s1) hP' hT' off'
theorem oth_w {hl : Addr} {jv : Value} {ho : Obj} {kvs : List (Int × Value)} {hv : Int → V3} {ps : Array Value} {rest : Led}
    (B : Below A₀ base outer h₀) (F : Fr h₀ L s.heap m) (X : (hd.heap_1 w.params).In h₀) (N : News h₀ L s.heap ((128, tabObj ps) :: (hl, ho) :: rest)) (T : Top p loose mean mg mb h₀) (hk : cs.kind = .function)
    (hd0 : ho.IsDictOf (intKind prg w) kvs) (hheld : HeldOk 3 kvs hv rest) (hP : ∀ k, 0 ≤ k → k < 3 → WOk (hv k)) (hT : TabS ps rest) (off : OwnOff rest [128, hl]) (hne : @Ne Nat hl 128)
    (hdp : dp + 16 < recursionLimit) (hun : un + 512 < cLine)
    (k : ∀ ps' rest' h' tk', Fr h₀ L h' m → News h₀ L h' ((128, tabObj ps') :: (hl, ho) :: rest') → TabS ps' rest' → OwnOff rest' [128, hl] → Q (.bool true) { s with heap := h', toks := tk' }) :
    wpAny (model prg w) (ktrTop dp un gd cn cs L a' ccd cl outer) (call (.ref 145) [jv, .ref hl]) Q E s := by
  refine Ctr.use B F X N T hk (oth_c w hl jv ho kvs hv ps rest hd0 hheld hP hT off hne) hdp hun ?_
  rintro r news' h' tk' F' N' ⟨ps', rest', rfl, rfl, _, hT', off'⟩
  exact k ps' rest' h' tk' F' N' hT' off'
end
def JarOk (a b B : Int) : Prop := 0 ≤ a ∧ a < 10 ^ 70 ∧ 0 ≤ b ∧ b ≤ B
inductive HeldJ (w : World) (hl jl Dj : Addr) (r0 : Led) (i : Nat) : Led → Prop
  | mk (ho : Obj) (kvs : List (Int × Value)) (hv : Int → V3) (a : Int) (ta : Tok) (b : Int) (tb : Tok) (n : Nat) (r1 : Led) (hJ : JarOk a b (3 + 2 * (i : Int))) (hd : ho.IsDictOf (intKind prg w) kvs) (hk : kvs.length ≤ i) (hs : ∀ p ∈ r0, p ∈ r1) (off : OwnOff r1 [hl, jl, 128])
    (hh : HeldOk (i : Int) kvs hv r1) (hP : ∀ k, 0 ≤ k → k < (i : Int) → WOk (hv k)) : HeldJ w hl jl Dj r0 i ((hl, ho) :: (jl, jarO a ta b tb Dj n) :: (128, tabObj #[]) :: r1)
theorem wok_of {wd y z : Int} (hw0 : 1 ≤ wd) (hw1 : wd ≤ 3) (y0 : 0 ≤ y) (y1 : y < 2 ^ wd.toNat) (z0 : 0 ≤ z) (z1 : z < 2 ^ wd.toNat) : WOk (wd, y, z) := ⟨hw0, hw1, y0, y1, z0, z1⟩
theorem vec_of {x : Addr} {wd y z : Int} {t1 t2 t3 : Tok} {n : Nat} {r : Led} (h : WOk (wd, y, z)) (hx : (x, tupOf [.int wd t1, .int y t2, .int z t3] n) ∈ r) : VecAt r (.ref x) (wd, y, z) :=
  ⟨x, t1, t2, t3, n, rfl, hx, h.2.2.1, (wok8 h).1, h.2.2.2.2.1, (wok8 h).2⟩
theorem held_step {kvs : List (Int × Value)} {hv : Int → V3} {r1 r2 : Led} {i : Nat} {v : Value} {t : V3} (hh : HeldOk (i : Int) kvs hv r1) (hP : ∀ k, 0 ≤ k → k < (i : Int) → WOk (hv k)) (hs : ∀ p ∈ r1, p ∈ r2) (hy : VecAt r2 v t) (ht : WOk t) :
    ∃ hv', HeldOk ((i + 1 : Nat) : Int) (stored kvs (i : Int) v) hv' r2 ∧ ∀ k, 0 ≤ k → k < ((i + 1 : Nat) : Int) → WOk (hv' k) := by
  refine ⟨fun k' => if k' = (i : Int) then t else hv k', fun k' a b => ?_, fun k' a b => ?_⟩
  · rw [valueAt_stored]
    by_cases e : k' = (i : Int)
    · simp only [if_pos e]; exact ⟨v, rfl, hy⟩
    · simp only [if_neg e]
      obtain ⟨v', e1, e2⟩ := hh k' a (by omega)
      exact ⟨v', e1, e2.mono hs⟩
  · by_cases e : k' = (i : Int)
    · simp only [if_pos e]; exact ht
    · simp only [if_neg e]; exact hP k' a (by omega)
theorem off_cons {x : Addr} {o : Obj} {r : Led} {as : List Addr} (h : OwnOff r as) (hx : ∀ b ∈ as, @Ne Nat x b) : OwnOff ((x, o) :: r) as := by
  intro p hp b hb
  rcases List.mem_cons.mp hp with rfl | hp
  · exact hx b hb
  · exact h p hp b hb
theorem off_app {r1 r4 own : Led} {as bs : List Addr} (off : OwnOff r1 as) (hown : OwnOff own bs) (hsub : ∀ b ∈ as, b ∈ bs) (hr : r4 = r1 ++ own) : OwnOff r4 as := by
  subst hr
  intro p hp b hb
  rcases List.mem_append.mp hp with h | h
  · exact off p h b hb
  · exact hown p h b (hsub b hb)
theorem item_Wd {prog : Program} {w : World} {A : Around} {E : Value → Shared → Prop} {s : Shared} {h₀ : Heap} {L c : Addr} {news : Led} {vs : List Value} {nn : Nat} {value slice : Expr} {ns : List Int} {k : Int} {u : Tok} {Q : Value → Shared → Prop} (N : News h₀ L s.heap news) (hm : (c, listOf vs.toArray nn) ∈ news) (hi : IntsAre vs ns) (hw : ∀ x ∈ ns, 1 ≤ x ∧ x ≤ 3)
    (h0 : 0 ≤ k) (h1 : k < ns.length) (hl : ns.length < 2 ^ 62) (h : ∀ x t, 1 ≤ x → x ≤ 3 → Q (.int x t) s)
    (hs : subscripted slice false (.ref c) (.int k u) = operate [.ref c, .int k u] (getItem (.ref c) (.int k u)) := by with_unfolding_all rfl) (hg : ∀ r, letTemporaryGo value (.ref c) r = pure () := by intro _; with_unfolding_all rfl) :
    wpAny (model prog w) A (subscriptTail value slice (.ref c) (.int k u)) Q E s :=
  item_M N hm hi h0 h1 hl (fun x t hx => h x t (hw x hx).1 (hw x hx).2) hs hg
theorem iter_rangeN {prog : Program} {w : World} {A : Around} {E : Value → Shared → Prop} {s : Shared} {env : Env} {h₀ : Heap} {body : List Stmt} {Q : Flow → Shared → Prop} {x : Str} {r : Addr} {b₀ : Int} {t₀ u₀ v₀ : Tok} {m₀ : Str → Option Value} {news : Led} (stored : List Str) (J : Nat → Led → Prop)
    (hh : A.handled = none) (hr : IsRange s.heap r 0 b₀ 1 t₀ u₀ v₀) (hb0 : 0 ≤ b₀) (hb1 : b₀ ≤ 100) (F : Fr h₀ env.locals s.heap m₀) (N : News h₀ env.locals s.heap news) (hj : J 0 news)
    (turn : ∀ (i : Nat) t (u : Str → Option Value) nx h tk own, (i : Int) < b₀ → OwnOff own (nx.map (·.1)) → J i nx → Fr h₀ env.locals h (fun y => if y = x then some (.int i t) else if stored.contains y then u y else m₀ y) → News h₀ env.locals h (nx ++ own) →
      wpAny (model prog w) A (execs body env) (InvPostG h₀ env.locals (JS stored m₀ J (i + 1)) own { s with heap := h, toks := tk } Q) E { s with heap := h, toks := tk })
    (done : ∀ (k : Nat) (u : Str → Option Value) nx h tk, (k : Int) = b₀ → J k nx → Fr h₀ env.locals h (fun y => if stored.contains y then u y else m₀ y) → News h₀ env.locals h nx → Q .next { s with heap := h, toks := tk }) :
    wpAny (model prog w) A (pyIter (.ref r)) (fun it s₂ => LoopAtV prog w A h₀ env x body Q E it s₂) E s := by
  obtain ⟨n, rfl⟩ : ∃ n : Nat, b₀ = n := ⟨b₀.toNat, by omega⟩
  exact iter_rangeS (n := n) stored J hh hr (small_one (by decide) (by decide) (by omega) (by omega)) (rangeSize_nat _ _) F N hj (fun i t u nx h tk own hi => turn i t u nx h tk own (by omega)) (fun u nx h tk => done n u nx h tk rfl)
theorem item_sort {prog : Program} {w : World} {A : Around} {E : Value → Shared → Prop} {s : Shared} {h₀ : Heap} {L c : Addr} {news : Led} {nn : Nat} {value slice : PySem.Expr} {k : Int} {u t1 t2 t3 : Tok} {Q : Value → Shared → Prop} (N : News h₀ L s.heap news) (hm : (c, listOf [Value.str "any" t1, .str "pos" t2, .str "neg" t3].toArray nn) ∈ news)
    (h0 : 0 ≤ k) (h1 : k < 3) (h : ∀ (so : Str) t, (so = "any" ∨ so = "pos" ∨ so = "neg") → Q (.str so t) s)
    (hs : subscripted slice false (.ref c) (.int k u) = operate [.ref c, .int k u] (getItem (.ref c) (.int k u)) := by with_unfolding_all rfl) :
    wpAny (model prog w) A (subscriptTail value slice (.ref c) (.int k u)) Q E s := by
  refine kba_turn (value' := PySem.Expr.Name (PySem.Str.ofString "_") ⟨0, 0, 0, 0⟩) (fun _ => rfl) ?_
  rcases (by omega : k = 0 ∨ k = 1 ∨ k = 2) with rfl | rfl | rfl
  · exact item_listL (isListM N hm) (by decide) (by decide) rfl (h _ _ (.inl rfl)) hs (fun _ => rfl)
  · exact item_listL (isListM N hm) (by decide) (by decide) rfl (h _ _ (.inr (.inl rfl))) hs (fun _ => rfl)
  · exact item_listL (isListM N hm) (by decide) (by decide) rfl (h _ _ (.inr (.inr rfl))) hs (fun _ => rfl)
theorem off_new {x : Addr} {r : Led} {as bs : List Addr} (off : OwnOff r as) (lt : AllLt x r) (hb : ∀ b ∈ bs, b = x ∨ b ∈ as) : OwnOff r bs := by
  intro p hp b hb2
  rcases hb b hb2 with h | h
  · rw [h]; exact Nat.ne_of_lt (tb_ltOf lt p hp)
  · exact off p hp b h
theorem evok_ev {k wd : Int} (h0 : 0 ≤ k) (h1 : k < 3) : EvOk 3 ⟨"any", true, wd, 5 + k⟩ := ⟨.inl rfl, by show (0 : Int) ≤ 5 + k; omega, by show 5 + k < (9 : Int); omega, fun h => by cases h⟩
theorem evok_sig {so : Str} {k wd : Int} (hs : so = "any" ∨ so = "pos" ∨ so = "neg") (h0 : 0 ≤ k) (h1 : k < 3) : EvOk 3 ⟨so, false, wd, k⟩ := ⟨hs, h0, by show k < (9 : Int); omega, fun _ => h1⟩
theorem allLt_sub {x : Addr} {r r' : Led} (h : AllLt x r') (hs : ∀ p ∈ r, p ∈ r') : AllLt x r := allLt_of fun p hp => tb_ltOf h p (hs p hp)
theorem own_tail {own r : Led} {as : List Addr} (h : OwnOff own (as ++ r.map (·.1))) : OwnOff own (r.map (·.1)) := fun p hp b hb => h p hp b (List.mem_append.mpr (.inr hb))
theorem own_off {own : Led} {x : Addr} {as bs : List Addr} (h : OwnOff own as) (lt : AllLt x own) (hb : ∀ b ∈ bs, b = x ∨ b ∈ as) : OwnOff own bs := off_new h lt hb
theorem law_off {cl jl el hl : Addr} {oc oe : Obj} {r3 r2 r5 : Led} (off5 : OwnOff r5 [cl, jl, el, hl, 128]) (lel : @LT.lt Nat _ hl el ∧ @LT.lt Nat _ jl el ∧ @LT.lt Nat _ 128 el ∧ AllLt el r2) (lcl : @LT.lt Nat _ el cl ∧ @LT.lt Nat _ jl cl ∧ @LT.lt Nat _ hl cl ∧ @LT.lt Nat _ 128 cl ∧ AllLt cl r3) :
    OwnOff ((cl, oc) :: (el, oe) :: r5) [128, hl] := by
  obtain ⟨a1, _, a3, _⟩ := lel
  obtain ⟨_, _, b3, b4, _⟩ := lcl
  refine off_cons (off_cons (fun p hp c hc => off5 p hp c ?_) ?_) ?_
  · simp only [List.mem_cons, List.mem_nil_iff, or_false] at hc ⊢
    rcases hc with h | h <;> simp only [h, true_or, or_true]
  · intro c hc
    simp only [List.mem_cons, List.mem_nil_iff, or_false] at hc
    rcases hc with rfl | rfl
    · exact Nat.ne_of_gt a3
    · exact Nat.ne_of_gt a1
  · intro c hc
    simp only [List.mem_cons, List.mem_nil_iff, or_false] at hc
    rcases hc with rfl | rfl
    · exact Nat.ne_of_gt b4
    · exact Nat.ne_of_gt b3
theorem news_sw {h₀ h : Heap} {L : Addr} {p q r : Addr × Obj} {l : Led} (N : News h₀ L h (p :: q :: r :: l)) : News h₀ L h (p :: r :: q :: l) := fun x hx => N x (by
  simp only [List.mem_cons] at hx ⊢
  rcases hx with h | h | h | h <;> simp only [h, true_or, or_true])
section
variable {w : World} {h₀ h' : Heap} {L : Addr} {m₀ m' : Str → Option Value} {g : Heap} {s : Shared} {tk : Nat} {full own r4 r1 r0 : Led} {st : List Str}
theorem held_fin {hl jl Dj x : Addr} {ho' q1 q2 q3 : Obj} {kvs : List (Int × Value)} {hv : Int → V3} {a b wd y z : Int} {ta tb t1 t2 t3 : Tok} {n i : Nat}
    (F : Fr g L h' m') (N : News g L h' ((x, tupOf [.int wd t1, .int y t2, .int z t3] 0) :: (hl, ho') :: (jl, jarO a ta b tb Dj n) :: (128, tabObj #[]) :: r4)) (hm : ∀ z : Str, st.contains z = false → m' z = m₀ z) (hd : ho'.IsDictOf (intKind prg w) (stored kvs (i : Int) (.ref x))) (hkl : kvs.length ≤ i) (hs : ∀ p ∈ r0, p ∈ r1) (off : OwnOff r1 [hl, jl, 128])
    (hh : HeldOk (i : Int) kvs hv r1) (hP : ∀ k, 0 ≤ k → k < (i : Int) → WOk (hv k)) (hw : WOk (wd, y, z)) (lt : @LT.lt Nat _ hl x ∧ @LT.lt Nat _ jl x ∧ @LT.lt Nat _ 128 x ∧ AllLt x r4)
    (hown : OwnOff own (((hl, q1) :: (jl, q2) :: (128, q3) :: r1).map (·.1))) (hr : r4 = r1 ++ own) (hJ : JarOk a b (3 + 2 * ((i + 1 : Nat) : Int))) :
    InvEndG g L (JS st m₀ (HeldJ w hl jl Dj r0) (i + 1)) own s { s with heap := h', toks := tk } := by
  subst hr
  have s2 : ∀ p ∈ r1, p ∈ (x, tupOf [.int wd t1, .int y t2, .int z t3] 0) :: r1 := fun p hp => .tail _ hp
  obtain ⟨hv', e1, e2⟩ := held_step (i := i) hh hP s2 (vec_of hw (.head _)) hw
  obtain ⟨l1, l2, l3, l4⟩ := lt
  refine InvEndG.intro F N ⟨.mk ho' _ hv' a ta b tb n ((x, tupOf [.int wd t1, .int y t2, .int z t3] 0) :: r1) hJ hd (Nat.le_trans (stored_length_le _ _ _) (by omega)) (fun p hp => s2 p (hs p hp)) (off_cons off ?_) e1 e2, hm⟩ ?_ ?_ ?_
  · intro c hc
    simp only [List.mem_cons, List.mem_nil_iff, or_false] at hc
    rcases hc with rfl | rfl | rfl
    · exact Nat.ne_of_gt l1
    · exact Nat.ne_of_gt l2
    · exact Nat.ne_of_gt l3
  · intro p hp c hc
    simp only [List.map_cons, List.mem_cons] at hc
    have ho := hown p hp c
    simp only [List.map_cons, List.mem_cons] at ho
    rcases hc with h | h | h | h | h
    · exact ho (.inl h)
    · exact ho (.inr (.inl h))
    · exact ho (.inr (.inr (.inl h)))
    · rw [h]; exact Nat.ne_of_lt (tb_ltOf l4 p (List.mem_append.mpr (.inr hp)))
    · exact ho (.inr (.inr (.inr h)))
  · intro p hp
    simp only [List.mem_cons, List.mem_append] at hp ⊢
    rcases hp with h | h | h | h | h <;> simp only [h, eq_self, true_or, or_true]
  · intro p hp
    simp only [List.mem_cons, List.mem_append, hp, or_true]
inductive EvJ (el jl hl Dj : Addr) (ho : Obj) (r0 : Led) (i : Nat) : Led → Prop
  | mk (vs : List Value) (evs : List Ev) (ne : Nat) (a : Int) (ta : Tok) (b : Int) (tb : Tok) (n : Nat) (r1 : Led) (hJ : JarOk a b (10 + 3 * (i : Int))) (hs : ∀ p ∈ r0, p ∈ r1) (off : OwnOff r1 [el, jl, hl, 128])
    (hD : DatAll r1 vs (evs.map evD)) (hok : ∀ e ∈ evs, EvOk 3 e) (hle : evs.length = i) : EvJ el jl hl Dj ho r0 i ((el, listOf vs.toArray ne) :: (jl, jarO a ta b tb Dj n) :: (hl, ho) :: (128, tabObj #[]) :: r1)
theorem dat_snoc {r r' : Led} {vs : List Value} {ds : List Dat} {v : Value} {d : Dat} (h : DatAll r vs ds) (hs : ∀ p ∈ r, p ∈ r') (hv : DatIn r' v d) : DatAll r' (vs ++ [v]) (ds ++ [d]) := by
  have h2 := h.mono hs
  clear h
  induction vs generalizing ds with
  | nil => cases h2; exact .cons hv .nil
  | cons a vs ih =>
    cases h2 with
    | cons p q => exact .cons p (ih q)
theorem ev_fin {el jl hl Dj x y u : Addr} {ou ho q1 q2 q3 q4 : Obj} {vs : List Value} {evs : List Ev} (ev : Bool) {so tag : Str} {wd key : Int} {a b : Int} {ta tb t1 t2 t3 t4 : Tok} {n n1 n2 n3 i : Nat}
    (F : Fr g L h' m') (N : News g L h' ((x, tupOf [.str so t1, .ref y] n1) :: (y, tupOf [.str tag t2, .int wd t3, .int key t4] n2) :: (u, ou) :: (el, listOf (vs.toArray.push (.ref x)) n3) :: (jl, jarO a ta b tb Dj n) :: (hl, ho) :: (128, tabObj #[]) :: r4))
    (hm : ∀ z : Str, st.contains z = false → m' z = m₀ z) (htag : tag = evTag ⟨so, ev, wd, key⟩) (he : EvOk 3 ⟨so, ev, wd, key⟩) (hs : ∀ p ∈ r0, p ∈ r1) (off : OwnOff r1 [el, jl, hl, 128])
    (hD : DatAll r1 vs (evs.map evD)) (hok : ∀ e ∈ evs, EvOk 3 e) (hle : evs.length = i)
    (lx : @LT.lt Nat _ y x ∧ @LT.lt Nat _ u x ∧ @LT.lt Nat _ el x ∧ @LT.lt Nat _ jl x ∧ @LT.lt Nat _ hl x ∧ @LT.lt Nat _ 128 x ∧ AllLt x r4) (ly : @LT.lt Nat _ u y ∧ @LT.lt Nat _ el y ∧ @LT.lt Nat _ jl y ∧ @LT.lt Nat _ hl y ∧ @LT.lt Nat _ 128 y ∧ AllLt y r4)
    (hown : OwnOff own (((el, q1) :: (jl, q2) :: (hl, q3) :: (128, q4) :: r1).map (·.1))) (hr : r4 = r1 ++ own) (hJ : JarOk a b (10 + 3 * ((i + 1 : Nat) : Int))) :
    InvEndG g L (JS st m₀ (EvJ el jl hl Dj ho r0) (i + 1)) own s { s with heap := h', toks := tk } := by
  subst hr
  have et : evTag ⟨so, ev, wd, key⟩ = tag := htag.symm
  have s2 : ∀ p ∈ r1, p ∈ (x, tupOf [.str so t1, .ref y] n1) :: (y, tupOf [.str tag t2, .int wd t3, .int key t4] n2) :: r1 := fun p hp => .tail _ (.tail _ hp)
  have hd2 : DatAll ((x, tupOf [.str so t1, .ref y] n1) :: (y, tupOf [.str tag t2, .int wd t3, .int key t4] n2) :: r1) (vs ++ [.ref x]) ((evs ++ ([⟨so, ev, wd, key⟩] : List Ev)).map evD) := by
    rw [List.map_append, List.map_singleton, evD, et]
    exact dat_snoc hD s2 (.tuple (.head _) (.cons (.str _ _) (.cons (.tuple (.tail _ (.head _)) (.cons (.str _ _) (.cons (.int _ _) (.cons (.int _ _) .nil)))) .nil)))
  obtain ⟨l0, _, l1, l2, l3, l4, l5⟩ := lx
  obtain ⟨_, k1, k2, k3, k4, k5⟩ := ly
  rw [List.push_toArray] at N
  refine InvEndG.intro F N ⟨.mk _ _ n3 a ta b tb n _ hJ (fun p hp => s2 p (hs p hp)) (off_cons (off_cons off ?_) ?_) hd2 ?_ (by simp [hle]), hm⟩ ?_ ?_ ?_
  · intro c hc
    simp only [List.mem_cons, List.mem_nil_iff, or_false] at hc
    rcases hc with rfl | rfl | rfl | rfl
    · exact Nat.ne_of_gt k1
    · exact Nat.ne_of_gt k2
    · exact Nat.ne_of_gt k3
    · exact Nat.ne_of_gt k4
  · intro c hc
    simp only [List.mem_cons, List.mem_nil_iff, or_false] at hc
    rcases hc with rfl | rfl | rfl | rfl
    · exact Nat.ne_of_gt l1
    · exact Nat.ne_of_gt l2
    · exact Nat.ne_of_gt l3
    · exact Nat.ne_of_gt l4
  · intro e h
    rcases List.mem_append.mp h with h | h
    · exact hok e h
    · rw [List.mem_singleton.mp h]; exact he
  · intro p hp c hc
    simp only [List.map_cons, List.mem_cons] at hc
    have ho := hown p hp c
    simp only [List.map_cons, List.mem_cons] at ho
    rcases hc with h | h | h | h | h | h | h
    · exact ho (.inl h)
    · exact ho (.inr (.inl h))
    · exact ho (.inr (.inr (.inl h)))
    · exact ho (.inr (.inr (.inr (.inl h))))
    · rw [h]; exact Nat.ne_of_lt (tb_ltOf l5 p (List.mem_append.mpr (.inr hp)))
    · rw [h]; exact Nat.ne_of_lt (tb_ltOf k5 p (List.mem_append.mpr (.inr hp)))
    · exact ho (.inr (.inr (.inr (.inr h))))
  · intro p hp
    simp only [List.mem_cons, List.mem_append] at hp ⊢
    rcases hp with h | h | h | h | h | h | h
    · exact .inr (.inr (.inr (.inl h)))
    · exact .inr (.inr (.inr (.inr (.inl h))))
    · exact .inr (.inr (.inr (.inr (.inr (.inl h)))))
    · exact .inr (.inr (.inr (.inr (.inr (.inr (.inl h))))))
    · exact .inl h
    · exact .inr (.inl h)
    · exact .inr (.inr (.inr (.inr (.inr (.inr (.inr (.inl h)))))))
  · intro p hp
    simp only [List.mem_cons, List.mem_append, hp, or_true]
inductive RwJ (w : World) (rl jl cl el hl Dj : Addr) (oc oe ho : Obj) (tl r0 : Led) (b0 : Int) (j : Nat) : Led → Prop
  | mk (ro : Obj) (kvr : List (Int × Value)) (a : Int) (ta : Tok) (b : Int) (tb : Tok) (n : Nat) (r1 : Led) (hJ : JarOk a b (b0 + 3 * (j : Int))) (hd : ro.IsDictOf (intKind prg w) kvr) (hk : kvr.length ≤ j) (hs : ∀ p ∈ r0, p ∈ r1) (off : OwnOff r1 [rl, jl, cl, el, hl, 128]) (offt : OwnOff tl (r1.map (·.1)))
    (hrow : ∀ k v, (k, v) ∈ kvr → 0 ≤ k ∧ k < 3 ∧ ∃ t, VecAt r1 v t ∧ WOk t) : RwJ w rl jl cl el hl Dj oc oe ho tl r0 b0 j ((rl, ro) :: (jl, jarO a ta b tb Dj n) :: (cl, oc) :: (el, oe) :: (hl, ho) :: (128, tabObj #[]) :: (r1 ++ tl))
theorem stored_in {kvs : List (Int × Value)} {k : Int} {v : Value} {k' : Int} {v' : Value} (h : (k', v') ∈ stored kvs k v) : (k' = k ∧ v' = v) ∨ (k', v') ∈ kvs := by
  unfold stored at h
  split at h
  · obtain ⟨q, hq, e⟩ := List.mem_map.mp h
    split at e
    · injection e with e1 e2
      rename_i hk
      exact .inl ⟨by rw [← e1, hk], e2.symm⟩
    · rw [← e]; exact .inr hq
  · rcases List.mem_append.mp h with h | h
    · exact .inr h
    · have := List.mem_singleton.mp h
      injection this with e1 e2
      exact .inl ⟨e1, e2⟩
theorem row_stay {rl jl cl el hl Dj : Addr} {oc oe ho ro q1 q2 q3 q4 q5 q6 : Obj} {tl r5 : Led} {kvr : List (Int × Value)} {a b b0 : Int} {ta tb : Tok} {n j : Nat}
    (F : Fr g L h' m') (N : News g L h' ((rl, ro) :: (jl, jarO a ta b tb Dj n) :: (cl, oc) :: (el, oe) :: (hl, ho) :: (128, tabObj #[]) :: r5)) (hm : ∀ z : Str, st.contains z = false → m' z = m₀ z)
    (hd : ro.IsDictOf (intKind prg w) kvr) (hkl : kvr.length ≤ j) (hs : ∀ p ∈ r0, p ∈ r1) (off : OwnOff r1 [rl, jl, cl, el, hl, 128]) (offt : OwnOff tl (r1.map (·.1))) (hrow : ∀ k v, (k, v) ∈ kvr → 0 ≤ k ∧ k < 3 ∧ ∃ t, VecAt r1 v t ∧ WOk t)
    (hown : OwnOff own (((rl, q1) :: (jl, q2) :: (cl, q3) :: (el, q4) :: (hl, q5) :: (128, q6) :: (r1 ++ tl)).map (·.1))) (hr : r5 = (r1 ++ tl) ++ own) (hJ : JarOk a b (b0 + 3 * ((j + 1 : Nat) : Int))) :
    InvEndG g L (JS st m₀ (RwJ w rl jl cl el hl Dj oc oe ho tl r0 b0) (j + 1)) own s { s with heap := h', toks := tk } := by
  subst hr
  refine InvEndG.intro F N ⟨.mk ro kvr a ta b tb n r1 hJ hd (by omega) hs off offt hrow, hm⟩ ?_ ?_ ?_
  · exact hown
  · intro p hp
    simp only [List.mem_cons, List.mem_append] at hp ⊢
    rcases hp with h | h | h | h | h | h | h | h <;> simp only [h, eq_self, true_or, or_true]
  · intro p hp
    simp only [List.mem_cons, List.mem_append, hp, or_true]
theorem row_turn {rl jl cl el hl Dj x : Addr} {oc oe ho ro' q1 q2 q3 q4 q5 q6 : Obj} {tl r5 : Led} {kvr : List (Int × Value)} {a b b0 wd y z : Int} {ta tb t1 t2 t3 : Tok} {n j : Nat}
    (F : Fr g L h' m') (N : News g L h' ((x, tupOf [.int wd t1, .int y t2, .int z t3] 0) :: (rl, ro') :: (jl, jarO a ta b tb Dj n) :: (cl, oc) :: (el, oe) :: (hl, ho) :: (128, tabObj #[]) :: r5)) (hm : ∀ z : Str, st.contains z = false → m' z = m₀ z)
    (hj : j < 3) (hd : ro'.IsDictOf (intKind prg w) (stored kvr (j : Int) (.ref x))) (hkl : kvr.length ≤ j) (hs : ∀ p ∈ r0, p ∈ r1) (off : OwnOff r1 [rl, jl, cl, el, hl, 128]) (offt : OwnOff tl (r1.map (·.1))) (hrow : ∀ k v, (k, v) ∈ kvr → 0 ≤ k ∧ k < 3 ∧ ∃ t, VecAt r1 v t ∧ WOk t)
    (hw : WOk (wd, y, z)) (lx : @LT.lt Nat _ rl x ∧ @LT.lt Nat _ jl x ∧ @LT.lt Nat _ cl x ∧ @LT.lt Nat _ el x ∧ @LT.lt Nat _ hl x ∧ @LT.lt Nat _ 128 x ∧ AllLt x r5)
    (hown : OwnOff own (((rl, q1) :: (jl, q2) :: (cl, q3) :: (el, q4) :: (hl, q5) :: (128, q6) :: (r1 ++ tl)).map (·.1))) (hr : r5 = (r1 ++ tl) ++ own) (hJ : JarOk a b (b0 + 3 * ((j + 1 : Nat) : Int))) :
    InvEndG g L (JS st m₀ (RwJ w rl jl cl el hl Dj oc oe ho tl r0 b0) (j + 1)) own s { s with heap := h', toks := tk } := by
  subst hr
  have s2 : ∀ p ∈ r1, p ∈ (x, tupOf [.int wd t1, .int y t2, .int z t3] 0) :: r1 := fun p hp => .tail _ hp
  obtain ⟨l1, l2, l3, l4, l5, l6, l7⟩ := lx
  refine InvEndG.intro F N ⟨.mk ro' _ a ta b tb n ((x, tupOf [.int wd t1, .int y t2, .int z t3] 0) :: r1) hJ hd (Nat.le_trans (stored_length_le _ _ _) (by omega)) (fun p hp => s2 p (hs p hp)) (off_cons off ?_) ?_ ?_, hm⟩ ?_ ?_ ?_
  · intro c hc
    simp only [List.mem_cons, List.mem_nil_iff, or_false] at hc
    rcases hc with rfl | rfl | rfl | rfl | rfl | rfl
    · exact Nat.ne_of_gt l1
    · exact Nat.ne_of_gt l2
    · exact Nat.ne_of_gt l3
    · exact Nat.ne_of_gt l4
    · exact Nat.ne_of_gt l5
    · exact Nat.ne_of_gt l6
  · intro p hp c hc
    rcases List.mem_cons.mp hc with h | h
    · rw [h]; exact Nat.ne_of_lt (tb_ltOf l7 p (List.mem_append.mpr (.inl (List.mem_append.mpr (.inr hp)))))
    · exact offt p hp c h
  · intro k v hkv
    rcases stored_in hkv with ⟨rfl, rfl⟩ | h
    · exact ⟨by omega, by omega, _, vec_of hw (.head _), hw⟩
    · obtain ⟨a1, a2, t, a3, a4⟩ := hrow k v h
      exact ⟨a1, a2, t, a3.mono s2, a4⟩
  · intro p hp c hc
    simp only [List.map_cons, List.mem_cons, List.cons_append] at hc
    have ho := hown p hp c
    simp only [List.map_cons, List.mem_cons] at ho
    rcases hc with h | h | h | h | h | h | h | h
    · exact ho (.inl h)
    · exact ho (.inr (.inl h))
    · exact ho (.inr (.inr (.inl h)))
    · exact ho (.inr (.inr (.inr (.inl h))))
    · exact ho (.inr (.inr (.inr (.inr (.inl h)))))
    · exact ho (.inr (.inr (.inr (.inr (.inr (.inl h))))))
    · rw [h]; exact Nat.ne_of_lt (tb_ltOf l7 p (List.mem_append.mpr (.inr hp)))
    · exact ho (.inr (.inr (.inr (.inr (.inr (.inr h))))))
  · intro p hp
    simp only [List.mem_cons, List.mem_append] at hp ⊢
    rcases hp with h | h | h | h | h | h | (h | h) | h <;> simp only [h, eq_self, true_or, or_true]
  · intro p hp
    simp only [List.mem_cons, List.mem_append, hp, or_true]
inductive ChJ (w : World) (cl jl el hl Dj : Addr) (oe ho : Obj) (r0 : Led) (i : Nat) : Led → Prop
  | mk (vch : List Value) (nc : Nat) (a : Int) (ta : Tok) (b : Int) (tb : Tok) (n : Nat) (r1 : Led) (hJ : JarOk a b (30 + 9 * (i : Int))) (hs : ∀ p ∈ r0, p ∈ r1) (off : OwnOff r1 [cl, jl, el, hl, 128]) (hlv : vch.length = i) (hall : ∀ v ∈ vch, RowAt w 3 WOk r1 v) :
    ChJ w cl jl el hl Dj oe ho r0 i ((cl, listOf vch.toArray nc) :: (jl, jarO a ta b tb Dj n) :: (el, oe) :: (hl, ho) :: (128, tabObj #[]) :: r1)
theorem RowAt.mono {nk : Int} {P : V3 → Prop} {r r' : Led} {v : Value} (h : RowAt w nk P r v) (hs : ∀ p ∈ r, p ∈ r') : RowAt w nk P r' v := by
  obtain ⟨rl, ro, kvr, a, b, c, d, e, f⟩ := h
  refine ⟨rl, ro, kvr, a, b, hs _ c, d, e, fun k v hkv => ?_⟩
  obtain ⟨a1, a2, t, a3, a4⟩ := f k v hkv
  exact ⟨a1, a2, t, a3.mono hs, a4⟩
theorem ch_fin {rl jl cl el hl Dj : Addr} {oe ho ro q1 q2 q3 q4 q5 : Obj} {r2 r9 : Led} {vch : List Value} {kvr : List (Int × Value)} {a b : Int} {ta tb : Tok} {n n3 i : Nat}
    (F : Fr g L h' m') (N : News g L h' ((rl, ro) :: (jl, jarO a ta b tb Dj n) :: (cl, listOf (vch.toArray.push (.ref rl)) n3) :: (el, oe) :: (hl, ho) :: (128, tabObj #[]) :: r9)) (hm : ∀ z : Str, st.contains z = false → m' z = m₀ z)
    (hlo : (rl == sysModules) = false) (hd : ro.IsDictOf (intKind prg w) kvr) (hkl : kvr.length ≤ 3) (hrow : ∀ k v, (k, v) ∈ kvr → 0 ≤ k ∧ k < 3 ∧ ∃ t, VecAt r2 v t ∧ WOk t)
    (hs : ∀ p ∈ r0, p ∈ r1) (hs2 : ∀ p ∈ r1, p ∈ r2) (off : OwnOff r2 [rl, jl, cl, el, hl, 128]) (offt : OwnOff own (r2.map (·.1))) (hall : ∀ v ∈ vch, RowAt w 3 WOk r1 v) (hlv : vch.length = i)
    (lr : @LT.lt Nat _ cl rl ∧ @LT.lt Nat _ jl rl ∧ @LT.lt Nat _ el rl ∧ @LT.lt Nat _ hl rl ∧ @LT.lt Nat _ 128 rl ∧ AllLt rl r4)
    (hown : OwnOff own (((cl, q1) :: (jl, q2) :: (el, q3) :: (hl, q4) :: (128, q5) :: r1).map (·.1))) (hr : r4 = r1 ++ own) (hr9 : r9 = r2 ++ own) (hJ : JarOk a b (30 + 9 * ((i + 1 : Nat) : Int))) :
    InvEndG g L (JS st m₀ (ChJ w cl jl el hl Dj oe ho r0) (i + 1)) own s { s with heap := h', toks := tk } := by
  subst hr
  subst hr9
  obtain ⟨l1, l2, l3, l4, l5, l6⟩ := lr
  have s2 : ∀ p ∈ r2, p ∈ (rl, ro) :: r2 := fun p hp => .tail _ hp
  rw [List.push_toArray] at N
  refine InvEndG.intro F N ⟨.mk (vch ++ [.ref rl]) n3 a ta b tb n ((rl, ro) :: r2) hJ (fun p hp => s2 p (hs2 p (hs p hp))) (off_cons (fun p hp c hc => off p hp c ?_) ?_) (by simp [hlv]) ?_, hm⟩ ?_ ?_ ?_
  · simp only [List.mem_cons, List.mem_nil_iff, or_false] at hc ⊢
    rcases hc with h | h | h | h | h <;> simp only [h, true_or, or_true]
  · intro c hc
    simp only [List.mem_cons, List.mem_nil_iff, or_false] at hc
    rcases hc with rfl | rfl | rfl | rfl | rfl
    · exact Nat.ne_of_gt l1
    · exact Nat.ne_of_gt l2
    · exact Nat.ne_of_gt l3
    · exact Nat.ne_of_gt l4
    · exact Nat.ne_of_gt l5
  · intro v hv
    rcases List.mem_append.mp hv with h | h
    · exact (hall v h).mono fun p hp => s2 p (hs2 p hp)
    · rw [List.mem_singleton.mp h]
      refine ⟨rl, ro, kvr, rfl, hlo, .head _, hd, hkl, fun k v hkv => ?_⟩
      obtain ⟨a1, a2, t, a3, a4⟩ := hrow k v hkv
      exact ⟨a1, a2, t, a3.mono s2, a4⟩
  · intro p hp c hc
    simp only [List.map_cons, List.mem_cons] at hc
    have ho := hown p hp c
    simp only [List.map_cons, List.mem_cons] at ho
    rcases hc with h | h | h | h | h | h | h
    · exact ho (.inl h)
    · exact ho (.inr (.inl h))
    · exact ho (.inr (.inr (.inl h)))
    · exact ho (.inr (.inr (.inr (.inl h))))
    · exact ho (.inr (.inr (.inr (.inr (.inl h)))))
    · rw [h]; exact Nat.ne_of_lt (tb_ltOf l6 p (List.mem_append.mpr (.inr hp)))
    · exact offt p hp c h
  · intro p hp
    simp only [List.mem_cons, List.mem_append] at hp ⊢
    rcases hp with h | h | h | h | h | h | h <;> simp only [h, eq_self, true_or, or_true]
  · intro p hp
    simp only [List.mem_cons, List.mem_append, hp, or_true]
end
end
section
open PySem PySem.W PyProof.Rows PySem.Calls PyProof.V
section
variable {w : World} {p : Program} {loose : List Str} {mean : ExcName → Option Value} {mg mb : Str → Option Value} {dp un : Nat} {gd : Option (List Code)} {cn : Str} {cs : Scope} {a' : Addr} {ccd : Value} {cl : List (Str × Addr)} {outer : List Env} {A₀ : Around} {base h₀ : Heap} {L : Addr} {m : Str → Option Value} {s : Shared} {Q E : Value → Shared → Prop}
def smallHv (k : Int) : V3 := if k = 0 then (1, 0, 0) else (2, 0, 0)
theorem small_vec {x : Addr} {a b c : Int} {t1 t2 t3 : Tok} {n : Nat} {r : Led} (hx : (x, tupOf [.int a t1, .int b t2, .int c t3] n) ∈ r) (h1 : 0 ≤ b) (h2 : b < 8) (h3 : 0 ≤ c) (h4 : c < 8) : VecAt r (.ref x) (a, b, c) :=
  ⟨x, t1, t2, t3, n, rfl, hx, h1, h2, h3, h4⟩
theorem small_row {r : Led} {d : Addr} {o : Obj} {kvr : List (Int × Value)} (lo : (d == sysModules) = false) (hm : (d, o) ∈ r) (hd : o.IsDictOf (intKind prg w) kvr) (hl : kvr.length ≤ 3) (h : ∀ k v, (k, v) ∈ kvr → 0 ≤ k ∧ k < 2 ∧ ∃ t, VecAt r v t) : RowAt w 2 (fun _ => True) r (.ref d) :=
  ⟨d, o, kvr, rfl, lo, hm, hd, hl, fun k v hkv => (h k v hkv).elim fun a b => ⟨a, b.1, b.2.elim fun t ht => ⟨t, ht, trivial⟩⟩⟩
theorem law_small {hl d4 l0 D0 d0 D1 d1 d2 D2 D3 d3 l1 E4 E3 E2 E1 S2 S1 : Addr} {o0 o1 o2 o3 o4 ho : Obj} {ps : Array Value} {q : Led} {t1 t2 t3 t4 t5 t6 t7 t8 t9 t10 t11 t12 t13 t14 t15 t16 t17 t18 t19 t20 t21 t22 t23 t24 t25 t26 : Tok} {n0 n1 z1 z2 z3 z4 z5 z6 z7 z8 z9 z10 : Nat}
    (B : Below A₀ base outer h₀) (F : Fr h₀ L s.heap m) (X : (hd.heap_1 w.params).In h₀) (N : News h₀ L s.heap ((l0, listOf [.ref d3, .ref d2, .ref d1, .ref d0].toArray n0) :: (D0, tupOf [.int 2 t1, .int 3 t2, .int 2 t3] z1) :: (d0, o0) :: (D1, tupOf [.int 1 t4, .int 1 t5, .int 1 t6] z2) :: (d1, o1) :: (d2, o2) :: (D2, tupOf [.int 2 t7, .int 3 t8, .int 0 t9] z3) :: (D3, tupOf [.int 1 t10, .int 1 t11, .int 0 t12] z4) :: (d3, o3) :: (l1, listOf [.ref E2, .ref E4].toArray n1) :: (E4, tupOf [.str "any" t13, .ref E3] z5) :: (E3, tupOf [.str "sig" t14, .int 2 t15, .int 1 t16] z6) :: (E2, tupOf [.str "pos" t17, .ref E1] z7) :: (E1, tupOf [.str "sig" t18, .int 1 t19, .int 0 t20] z8) :: (S2, tupOf [.int 2 t21, .int 0 t22, .int 0 t23] z9) :: (S1, tupOf [.int 1 t24, .int 0 t25, .int 0 t26] z10) :: (d4, o4) :: (128, tabObj ps) :: (hl, ho) :: q)) (T : Top p loose mean mg mb h₀) (hk : cs.kind = .function)
    (i0 : o0.IsDictOf (intKind prg w) [(1, .ref D0)]) (i1 : o1.IsDictOf (intKind prg w) [(0, .ref D1)]) (i2 : o2.IsDictOf (intKind prg w) []) (i3 : o3.IsDictOf (intKind prg w) [(0, .ref D3), (1, .ref D2)]) (i4 : o4.IsDictOf (intKind prg w) [(0, .ref S1), (1, .ref S2)])
    (y0 : (d0 == sysModules) = false) (y1 : (d1 == sysModules) = false) (y2 : (d2 == sysModules) = false) (y3 : (d3 == sysModules) = false)
    (g : @LT.lt Nat _ 128 d4) (gl0 : @LT.lt Nat _ d4 l0) (gD0 : @LT.lt Nat _ d4 D0) (gd0 : @LT.lt Nat _ d4 d0) (gD1 : @LT.lt Nat _ d4 D1) (gd1 : @LT.lt Nat _ d4 d1) (gd2 : @LT.lt Nat _ d4 d2) (gD2 : @LT.lt Nat _ d4 D2) (gD3 : @LT.lt Nat _ d4 D3) (gd3 : @LT.lt Nat _ d4 d3) (gl1 : @LT.lt Nat _ d4 l1) (gE4 : @LT.lt Nat _ d4 E4) (gE3 : @LT.lt Nat _ d4 E3) (gE2 : @LT.lt Nat _ d4 E2) (gE1 : @LT.lt Nat _ d4 E1) (gS2 : @LT.lt Nat _ d4 S2) (gS1 : @LT.lt Nat _ d4 S1) (hq : AllLt d4 q) (hT : TabS ps q) (off : OwnOff q [128, hl]) (hdp : dp + 16 < recursionLimit) (hun : un + 512 < cLine)
    (k : ∀ ps' o' rest' h' tk', Fr h₀ L h' m → News h₀ L h' ((128, tabObj ps') :: (d4, o') :: rest') → TabS ps' rest' → OwnOff rest' [128, d4] → Q (.bool true) { s with heap := h', toks := tk' }) :
    wpAny (model prg w) (ktrTop dp un gd cn cs L a' ccd cl outer) (call (.ref 138) [.ref d4, .ref l1, .ref l0]) Q E s := by
  obtain ⟨full, hfull⟩ : ∃ full : Led, full = ((l0, listOf [.ref d3, .ref d2, .ref d1, .ref d0].toArray n0) :: (D0, tupOf [.int 2 t1, .int 3 t2, .int 2 t3] z1) :: (d0, o0) :: (D1, tupOf [.int 1 t4, .int 1 t5, .int 1 t6] z2) :: (d1, o1) :: (d2, o2) :: (D2, tupOf [.int 2 t7, .int 3 t8, .int 0 t9] z3) :: (D3, tupOf [.int 1 t10, .int 1 t11, .int 0 t12] z4) :: (d3, o3) :: (l1, listOf [.ref E2, .ref E4].toArray n1) :: (E4, tupOf [.str "any" t13, .ref E3] z5) :: (E3, tupOf [.str "sig" t14, .int 2 t15, .int 1 t16] z6) :: (E2, tupOf [.str "pos" t17, .ref E1] z7) :: (E1, tupOf [.str "sig" t18, .int 1 t19, .int 0 t20] z8) :: (S2, tupOf [.int 2 t21, .int 0 t22, .int 0 t23] z9) :: (S1, tupOf [.int 1 t24, .int 0 t25, .int 0 t26] z10) :: (d4, o4) :: (128, tabObj ps) :: (hl, ho) :: q) := ⟨_, rfl⟩
  rw [← hfull] at N
  have put : ∀ p ∈ full, @LT.lt Nat _ d4 p.1 → p ∈ but full [128, d4] := by
    intro p hp hlt
    refine mem_but hp ?_
    intro b hb
    simp only [List.mem_cons, List.mem_nil_iff, or_false] at hb
    rcases hb with rfl | rfl
    · exact Nat.ne_of_gt (Nat.lt_trans g hlt)
    · exact Nat.ne_of_gt hlt
  have pl0 := put (l0, listOf [.ref d3, .ref d2, .ref d1, .ref d0].toArray n0) (by rw [hfull]; exact (.head _)) gl0
  have pD0 := put (D0, tupOf [.int 2 t1, .int 3 t2, .int 2 t3] z1) (by rw [hfull]; exact (.tail _ (.head _))) gD0
  have pd0 := put (d0, o0) (by rw [hfull]; exact (.tail _ (.tail _ (.head _)))) gd0
  have pD1 := put (D1, tupOf [.int 1 t4, .int 1 t5, .int 1 t6] z2) (by rw [hfull]; exact (.tail _ (.tail _ (.tail _ (.head _))))) gD1
  have pd1 := put (d1, o1) (by rw [hfull]; exact (.tail _ (.tail _ (.tail _ (.tail _ (.head _)))))) gd1
  have pd2 := put (d2, o2) (by rw [hfull]; exact (.tail _ (.tail _ (.tail _ (.tail _ (.tail _ (.head _))))))) gd2
  have pD2 := put (D2, tupOf [.int 2 t7, .int 3 t8, .int 0 t9] z3) (by rw [hfull]; exact (.tail _ (.tail _ (.tail _ (.tail _ (.tail _ (.tail _ (.head _)))))))) gD2
  have pD3 := put (D3, tupOf [.int 1 t10, .int 1 t11, .int 0 t12] z4) (by rw [hfull]; exact (.tail _ (.tail _ (.tail _ (.tail _ (.tail _ (.tail _ (.tail _ (.head _))))))))) gD3
  have pd3 := put (d3, o3) (by rw [hfull]; exact (.tail _ (.tail _ (.tail _ (.tail _ (.tail _ (.tail _ (.tail _ (.tail _ (.head _)))))))))) gd3
  have pl1 := put (l1, listOf [.ref E2, .ref E4].toArray n1) (by rw [hfull]; exact (.tail _ (.tail _ (.tail _ (.tail _ (.tail _ (.tail _ (.tail _ (.tail _ (.tail _ (.head _))))))))))) gl1
  have pE4 := put (E4, tupOf [.str "any" t13, .ref E3] z5) (by rw [hfull]; exact (.tail _ (.tail _ (.tail _ (.tail _ (.tail _ (.tail _ (.tail _ (.tail _ (.tail _ (.tail _ (.head _)))))))))))) gE4
  have pE3 := put (E3, tupOf [.str "sig" t14, .int 2 t15, .int 1 t16] z6) (by rw [hfull]; exact (.tail _ (.tail _ (.tail _ (.tail _ (.tail _ (.tail _ (.tail _ (.tail _ (.tail _ (.tail _ (.tail _ (.head _))))))))))))) gE3
  have pE2 := put (E2, tupOf [.str "pos" t17, .ref E1] z7) (by rw [hfull]; exact (.tail _ (.tail _ (.tail _ (.tail _ (.tail _ (.tail _ (.tail _ (.tail _ (.tail _ (.tail _ (.tail _ (.tail _ (.head _)))))))))))))) gE2
  have pE1 := put (E1, tupOf [.str "sig" t18, .int 1 t19, .int 0 t20] z8) (by rw [hfull]; exact (.tail _ (.tail _ (.tail _ (.tail _ (.tail _ (.tail _ (.tail _ (.tail _ (.tail _ (.tail _ (.tail _ (.tail _ (.tail _ (.head _))))))))))))))) gE1
  have pS2 := put (S2, tupOf [.int 2 t21, .int 0 t22, .int 0 t23] z9) (by rw [hfull]; exact (.tail _ (.tail _ (.tail _ (.tail _ (.tail _ (.tail _ (.tail _ (.tail _ (.tail _ (.tail _ (.tail _ (.tail _ (.tail _ (.tail _ (.head _)))))))))))))))) gS2
  have pS1 := put (S1, tupOf [.int 1 t24, .int 0 t25, .int 0 t26] z10) (by rw [hfull]; exact (.tail _ (.tail _ (.tail _ (.tail _ (.tail _ (.tail _ (.tail _ (.tail _ (.tail _ (.tail _ (.tail _ (.tail _ (.tail _ (.tail _ (.tail _ (.head _))))))))))))))))) gS1
  have m4 : (d4, o4) ∈ full := by rw [hfull]; exact (.tail _ (.tail _ (.tail _ (.tail _ (.tail _ (.tail _ (.tail _ (.tail _ (.tail _ (.tail _ (.tail _ (.tail _ (.tail _ (.tail _ (.tail _ (.tail _ (.head _)))))))))))))))))
  have m128 : (128, tabObj ps) ∈ full := by rw [hfull]; exact (.tail _ (.tail _ (.tail _ (.tail _ (.tail _ (.tail _ (.tail _ (.tail _ (.tail _ (.tail _ (.tail _ (.tail _ (.tail _ (.tail _ (.tail _ (.tail _ (.tail _ (.head _))))))))))))))))))
  have hTb : TabS ps (but full [128, d4]) := hT.mono (by
    intro p hp
    refine mem_but (by rw [hfull]; simp only [List.mem_cons, hp, or_true]) ?_
    intro b hb
    simp only [List.mem_cons, List.mem_nil_iff, or_false] at hb
    rcases hb with rfl | rfl
    · exact off p hp _ (.head _)
    · exact Nat.ne_of_lt (tb_ltOf hq p hp))
  clear put
  refine wait_w (nk := 2) (P := fun _ => True) (hv := smallHv) (evs := [⟨"pos", false, 1, 0⟩, ⟨"any", false, 2, 1⟩]) (but full [128, d4]) B F X N T hk m128 m4 but_sub i4 (Nat.le_of_ble_eq_true rfl) ⟨[.ref E2, .ref E4], n1, pl1, ?_⟩ ?_ (by decide) ?_ (fun _ _ _ => trivial) (vch := [.ref d3, .ref d2, .ref d1, .ref d0]) pl0 (Nat.le_of_ble_eq_true rfl) ?_ hTb but_off (Nat.ne_of_gt g) hdp hun ?_
  · exact .cons (.tuple pE2 (.cons (.str _ _) (.cons (.tuple pE1 (.cons (.str _ _) (.cons (.int _ _) (.cons (.int _ _) .nil)))) .nil))) (.cons (.tuple pE4 (.cons (.str _ _) (.cons (.tuple pE3 (.cons (.str _ _) (.cons (.int _ _) (.cons (.int _ _) .nil)))) .nil))) .nil)
  · intro e he
    simp only [List.mem_cons, List.mem_nil_iff, or_false] at he
    rcases he with rfl | rfl
    · exact ⟨.inr (.inl rfl), by decide, by decide, fun _ => by decide⟩
    · exact ⟨.inl rfl, by decide, by decide, fun _ => by decide⟩
  · intro k k0 k2
    rcases (by omega : k = 0 ∨ k = 1) with rfl | rfl
    · exact ⟨.ref S1, rfl, small_vec pS1 (by decide) (by decide) (by decide) (by decide)⟩
    · exact ⟨.ref S2, rfl, small_vec pS2 (by decide) (by decide) (by decide) (by decide)⟩
  · intro v hv
    simp only [List.mem_cons, List.mem_nil_iff, or_false] at hv
    rcases hv with rfl | rfl | rfl | rfl
    · refine small_row y3 pd3 i3 (Nat.le_of_ble_eq_true rfl) fun k v hkv => ?_
      simp only [List.mem_cons, List.mem_nil_iff, or_false] at hkv
      rcases hkv with h | h <;> (injection h with h1 h2; subst h1; subst h2)
      · exact ⟨by decide, by decide, _, small_vec pD3 (by decide) (by decide) (by decide) (by decide)⟩
      · exact ⟨by decide, by decide, _, small_vec pD2 (by decide) (by decide) (by decide) (by decide)⟩
    · exact small_row y2 pd2 i2 (by decide) fun k v hkv => nomatch hkv
    · refine small_row y1 pd1 i1 (Nat.le_of_ble_eq_true rfl) fun k v hkv => ?_
      injection List.mem_singleton.mp hkv with h1 h2
      subst h1; subst h2
      exact ⟨by decide, by decide, _, small_vec pD1 (by decide) (by decide) (by decide) (by decide)⟩
    · refine small_row y0 pd0 i0 (Nat.le_of_ble_eq_true rfl) fun k v hkv => ?_
      injection List.mem_singleton.mp hkv with h1 h2
      subst h1; subst h2
      exact ⟨by decide, by decide, _, small_vec pD0 (by decide) (by decide) (by decide) (by decide)⟩
  · intro ps' ho' kvs' hv' rest' h' tk' F' N' _ _ _ _ hT' off'
    exact k ps' ho' rest' h' tk' F' N' hT' off'
end
end
section
open PySem PySem.W PyProof.Rows PySem.Calls PyProof.V
theorem freshLaw : True := by
  w_top off
  trivial
local macro_rules | `(tactic| walk_at "call ref") => `(tactic| (k_here; (with_reducible show wpAny _ _ (call (Value.ref 105) _) _ _ _); k_dflt (refine' draw_u ?k1 ?k2 ?k3 ?k4 ?k5 ?kK ?kU ?kc ?kv ?l1 ?l2 ?a0 ?a1 ?b0 ?b1 ?c0 ?c1 ?kd ?ku ?_; (case k1 => k_asm); (case k2 => k_asm); (case k3 => k_asm); (case k4 => k_asm); (case k5 => k_asm); (case kK => first | exact rfl | assumption); (case kU => k_updF); (case kc => k_mem); (case kv => assumption); (case l1 => assumption); (case l2 => assumption); (case a0 => assumption); (case a1 => assumption); (case b0 => assumption); (case b1 => omega); (case c0 => decide); (case c1 => decide); (case kd => ktr_room); (case ku => ktr_units)); intro x9 t9 a9 ta9 b9 tb9 n9 h9 tk9 x0 x1 a0 a1 b0 b1 F9 N9; (try dsimp only at N9); (try dsimp only); (try k_fold); (try k_sweep); walk_say "DRAW"))
local macro_rules | `(tactic| walk_at "call ref") => `(tactic| (k_here; (with_reducible show wpAny _ _ (call (Value.ref 112) _) _ _ _); k_dflt (refine' value_u ?k1 ?k2 ?k3 ?k4 ?k5 ?kK ?kU ?kc ?kv ?l1 ?l2 ?a0 ?a1 ?b0 ?b1 ?c0 ?c1 ?kd ?ku ?_; (case k1 => k_asm); (case k2 => k_asm); (case k3 => k_asm); (case k4 => k_asm); (case k5 => k_asm); (case kK => first | exact rfl | assumption); (case kU => k_updF); (case kc => k_mem); (case kv => assumption); (case l1 => assumption); (case l2 => assumption); (case a0 => assumption); (case a1 => assumption); (case b0 => assumption); (case b1 => omega); (case c0 => assumption); (case c1 => assumption); (case kd => ktr_room); (case ku => ktr_units)); intro x9 y9 z9 t7 t8 t9 a9 ta9 b9 tb9 n9 h9 tk9 y0 y1 z0 z1 a0 a1 b0 b1 l9 F9 N9; (try dsimp only at N9 l9); (try simp only [AllLt] at l9); (try dsimp only); (try k_fold); (try k_sweep); walk_say "VALUE"))
local macro_rules | `(tactic| walk_at "subscriptTail") => `(tactic| (k_here; (with_reducible show wpAny _ _ (subscriptTail _ _ (Value.ref _) (Value.int _ _)) _ _ _); k_dflt (refine' item_Wd ?iN ?im ?ii ?iw ?i0 ?i1 ?il ?_ ?is ?ig; (case iN => k_asm); (case im => k_mem); (case ii => assumption); (case iw => assumption); (case i0 => omega); (case i1 => omega); (case il => omega); (case is => with_unfolding_all rfl); (case ig => (intro _; with_unfolding_all rfl))); intro x7 t7 w7 w8; walk_say "WIDTH"))
local macro_rules | `(tactic| walk_at "subscriptTail") => `(tactic| (k_here; (with_reducible show wpAny _ _ (subscriptTail (PySem.Expr.List _ _) _ (Value.ref _) (Value.int _ _)) _ _ _); k_dflt (refine' item_sort ?iN ?im ?i0 ?i1 ?_ ?is; (case iN => k_asm); (case im => k_mem); (case i0 => assumption); (case i1 => assumption); (case is => with_unfolding_all rfl)); intro so7 t7 e7; walk_say "SORT"))
local macro_rules | `(tactic| walk_at "call type:range") => `(tactic| (k_here; (with_reducible show wpAny _ _ (call _ [Value.int _ _]) _ _ _); (rename Fr _ _ _ _ => F'); (rename News _ _ _ _ => N'); (with_unfolding_all refine range1_rows F' N' ?_); intro h' _ _ _ _ _ F' N' _; walk_say "RANGE1"))
local macro_rules | `(tactic| walk_at "newTuple") => `(tactic| (k_here; k_dflt (refine' kup_newTuple ?tF ?tN ?_ ?tz; (case tF => k_asm); (case tN => k_asm); (case tz => first | exact Nat.le_of_ble_eq_true rfl | kmk_size)); intro D' h' F' N' l1; (try k_lt l1); (try k_sweep)))
local macro_rules | `(tactic| walk_at "setItem ref int") => `(tactic| (k_here; k_dflt (refine' kda_set (knd := PySem.intKind _ _) ?F ?N ?U ?d (intKind_is _ _ _ _) ?z ?_; (case F => k_asm); (case N => k_asm); (case U => k_updF); (case d => assumption); (case z => rw [sizeLine_eq]; omega)); intro h' o' F' N' hd'; (try dsimp only at N')))
local macro_rules | `(tactic| walk_at "CompSrc") => `(tactic| walk_say "AT SRC")
local macro_rules | `(tactic| walk_at "eval Dict") => `(tactic| (k_here; k_dflt (refine' kdn_int ?q ?F ?N ?b ?a ?l ?e ?n ?_; (case q => rfl); (case F => k_asm); (case N => k_asm); (case b => exact Top.nolimit (by k_asm)); (case a => rfl); (case l => rfl); (case e => exact List.cons_ne_nil _ _); (case n => exact Nat.le_of_ble_eq_true rfl)); intro d' h' o' F' N' l1 lo' hd'; (try k_lt l1)))
theorem ite_nt {P Q : Prop} (h : Q) : if (!true) = true then P else Q := h
local macro_rules | `(tactic| walk_at "ite") => `(tactic| first | with_reducible refine ite_nt ?_ | with_reducible refine ite_ff ?_ | with_reducible refine ite_tt ?_ | with_reducible refine ite_False_else ?_ | with_reducible refine ite_True_then ?_)
set_option maxRecDepth 100000 in
set_option maxHeartbeats 40000000 in
theorem lawT : PySem.Challenge.rw_on0093_01.Holds := Mine.hd (by
  k_go0
  all_goals try k_fold
  iterate 28 (first | walk1 | (dsimp only; walk1) | skip)
  (rename News _ _ _ _ => lN)
  (rename IntsAre _ (_ ++ [0]) => hI)
  refine kba_turn (value' := PySem.Expr.Name (PySem.Str.ofString "_") ⟨0, 0, 0, 0⟩) (fun _ => rfl) ?_
  refine' kmk_slice_ints (lo := none) (hi := some 40) ?F9 lN (isListM lN (List.Mem.head _)) ?p9 ?q9 hI (slice_ints_uptoW hI (y := 40) (by decide)) rfl ?_ ?s9 ?t9 ?z9
  case F9 => k_asm
  case p9 => kmk_part
  case q9 => kmk_part
  case s9 => with_unfolding_all rfl
  case t9 => exact fun _ => rfl
  case z9 => (have hl9 := hI.length; rw [List.length_append, List.length_singleton] at hl9; exact fitsM (n := 100) (by omega) (by decide))
  intro Dj wj hj Fj Nj lj hIj _ hle
  k_lt lj
  repeat' ((fail_if_success (with_reducible show wpAny _ _ (PySem.eval (PySem.Expr.ListComp _ _ _ _) _) _ _ _)); (fail_if_success (with_reducible show wpAny _ _ (PySem.exec (PySem.Stmt.Assign _ (PySem.Expr.ListComp _ _ _ _) _) _) _ _ _)); (first | (k_unfold; (try dsimp only)) | (k_end; wrow_close) | walk1 | (dsimp only; walk1) | (leave1; walk_say "STEP leave1"; try dsimp only)))
  have hM := kdMark
  obtain ⟨ms, hms, hm1, hm2⟩ := take_facts hIj
  clear hIj
  (rename News _ _ _ _ => lN)
  obtain ⟨jl, ejl⟩ := news_hd lN
  subst ejl
  obtain ⟨r0, N0, off0, put⟩ := split1 lN (List.Mem.head _)
  have qj := put _ (List.Mem.tail _ (List.Mem.head _)) (by show @Ne Nat _ _; omega)
  have qc := put _ (List.Mem.tail _ (List.Mem.tail _ (List.Mem.tail _ (List.Mem.tail _ (List.Mem.tail _ (List.Mem.head _)))))) (by show @Ne Nat _ _; omega)
  have qt := put _ (List.Mem.tail _ (List.Mem.tail _ (List.Mem.tail _ (List.Mem.tail _ (List.Mem.tail _ (List.Mem.tail _ (List.Mem.head _))))))) (by show @Ne Nat _ _; omega)
  clear put lN
  k_dflt (refine PyProof.Rows.LCg.Assign_ListComp_U (F₀ := by k_asm) (by rfl) (by with_unfolding_all rfl) (by with_unfolding_all rfl) (by decide) (by rfl) (by decide) (by rfl) (by rfl) (by rfl) ?_)
  k_dflt lcg_toSrc
  refine' PyProof.Rows.LCg.CompSrc.range (n := 3) ?q1 ?q2 ?q3 ?q4 ?q5 ?q6 ?q7 ?_
  case q1 => rfl
  case q2 => k_asm
  case q3 => k_asm
  case q4 => assumption
  case q5 => decide
  case q6 => decide
  case q7 => decide
  intro g4
  refine' restU_all (fun i ys nx => JarS jl Dj r0 i nx ∧ ∃ ws, IntsAre ys ws ∧ ws.length = i ∧ ∀ x ∈ ws, 1 ≤ x ∧ x ≤ 3) ?fin ?step 3 0 [] _ rfl ⟨.mk 0 _ 0 _ _ (by decide) (by decide) (by decide) (by decide), [], .nil, rfl, by simp⟩
  case step =>
    rintro i ys nx hi ⟨hjar, ws, hys, hwl, hwx⟩
    cases hjar with | mk a ta b tb n a0 a1 b0 b1 => ?_
    intro v I oI C oC D m₂ h4 tk4 E' hev hC hx F4 N4 o3 hne3
    obtain ⟨ti, ev⟩ := hev
    subst ev
    have o9 := o3
    simp only [PyProof.Rows.LCg.Off3, and_true] at o9
    k_steps
    (rename News _ _ _ _ => lN7)
    refine' PyProof.Rows.LCg.CompEnd.intro (by k_asm) lN7 _ (fun p hp => hp) o3 trivial ⟨.mk _ _ _ _ _ (by assumption) (by assumption) (by assumption) (by omega), ?ww⟩
    exact width_step hys hwl hwx (by assumption) (by assumption)
  case fin =>
    rintro ys nx ⟨hjar, ws, hys, hwl, hwx⟩
    cases hjar with | mk a ta b tb n a0 a1 b0 b1 => ?_
    unfold PyProof.Rows.LCg.FinA
    intro wl h6 tk6 F6 N6 o6
    simp only [PyProof.Rows.LCg.Off1, and_true] at o6
    dsimp only
    have o7 := off1_mem o6.2
    repeat' ((fail_if_success (with_reducible show wpAny _ _ (PySem.exec (PySem.Stmt.For _ _ _ _ _) _) _ _ _)); (first | (k_unfold; (try dsimp only)) | (k_end; wrow_close) | walk1 | (dsimp only; walk1) | (leave1; walk_say "STEP leave1"; try dsimp only)))
    (rename News _ _ _ _ => lN)
    obtain ⟨hl, ehl⟩ := news_hd lN
    subst ehl
    obtain ⟨lw1, lw2, lw3⟩ := (by assumption : @LT.lt Nat _ wl hl ∧ @LT.lt Nat _ jl hl ∧ AllLt hl r0)
    obtain ⟨r1, N1, off1, put⟩ := split_l lN [(hl, _), (jl, jarO a ta b tb Dj n), (128, tabObj #[])] (by
      intro p hp
      simp only [List.mem_cons, List.mem_nil_iff, or_false] at hp ⊢
      rcases hp with h | h | h
      · exact .inl h
      · exact .inr (.inr (.inl h))
      · exact .inr (.inr (.inr (h ▸ qt))))
    simp only [List.map_cons, List.map_nil, List.cons_append, List.nil_append] at N1 off1 put
    have t3 : ∀ {x : Nat}, @Ne Nat x hl → @Ne Nat x jl → @Ne Nat x 128 → ∀ c ∈ [hl, jl, 128], @Ne Nat x c := by
      intro x c1 c2 c3 c hc
      simp only [List.mem_cons, List.mem_nil_iff, or_false] at hc
      rcases hc with rfl | rfl | rfl <;> assumption
    have qj1 := put _ (.tail _ (.tail _ (.tail _ qj))) (t3 (Nat.ne_of_lt (tb_ltOf lw3 _ qj)) (off0 _ qj _ (.head _)) (by show @Ne Nat _ _; omega))
    have qc1 := put _ (.tail _ (.tail _ (.tail _ qc))) (t3 (Nat.ne_of_lt (tb_ltOf lw3 _ qc)) (off0 _ qc _ (.head _)) (by show @Ne Nat _ _; omega))
    have qw1 := put _ (.tail _ (.head _)) (t3 (Nat.ne_of_lt lw1) (fun e => o6.1 e.symm) (fun e => o7 _ qt e.symm))
    clear put t3 lN
    (rename Fr _ _ _ _ => lF)
    refine' For_invVF lF ?kf1 ?kf2 ?_
    case kf1 => exact rfl
    case kf2 => exact rfl
    repeat' ((fail_if_success (with_reducible show wpAny _ _ (PySem.pyIter (Value.ref _)) _ _ _)); (first | (k_unfold; (try dsimp only)) | (k_end; wrow_close) | walk1 | (dsimp only; walk1) | (leave1; walk_say "STEP leave1"; try dsimp only)))
    (rename Fr _ _ _ _ => lF)
    (rename News _ _ _ _ => lN)
    refine iter_rangeS (n := 3) ["key"] (HeldJ _ hl jl Dj r1) (by rfl) (by assumption) (by decide) (by decide) lF lN (.mk _ [] (fun _ => (0, 0, 0)) _ _ _ _ _ r1 ⟨a0, a1, b0, by omega⟩ (by assumption) (Nat.le_refl _) (fun _ h => h) off1 (fun k h1 h2 => absurd h2 (by omega)) (fun k h1 h2 => absurd h2 (by omega))) ?turn ?done
    case turn =>
      intro i ti u nx h7 tk7 own hi hown hJ0 F7 N7
      cases hJ0 with | mk ho kvs hv a ta b tb n r2 hjk hd hkl hs off hh hP => ?_
      obtain ⟨a0, a1, b0, b1⟩ := hjk
      simp only [List.cons_append] at N7
      obtain ⟨r4, hr4⟩ : ∃ r4, r4 = r2 ++ own := ⟨_, rfl⟩
      rw [← hr4] at N7
      have s4 : ∀ p ∈ r1, p ∈ r4 := fun p hp => by rw [hr4]; exact List.mem_append.mpr (.inl (hs p hp))
      have off4 := off_app off hown (by simp) hr4
      replace qj1 := s4 _ qj1
      replace qc1 := s4 _ qc1
      replace qw1 := s4 _ qw1
      clear lN lF
      k_steps
      (rename News _ _ _ _ => lN9)
      refine' held_fin (i := i) (by k_asm) lN9 ?_ (by assumption) hkl hs off hh hP (wok_of (by assumption) (by assumption) (by assumption) (by assumption) (by assumption) (by assumption)) (by assumption) hown hr4 ⟨by assumption, by assumption, by assumption, by omega⟩
      · intro z hz
        simp at hz
        simp [hz]
    case done =>
      intro u nx h7 tk7 hJ0 F7 N7
      cases hJ0 with | mk ho kvs hv a ta b tb n r2 hjk hd hkl hs off hh hP => ?_
      obtain ⟨a0, a1, b0, b1⟩ := hjk
      dsimp only
      replace qj1 := hs _ qj1
      replace qc1 := hs _ qc1
      replace qw1 := hs _ qw1
      clear lN lF
      repeat' ((fail_if_success (with_reducible show wpAny _ _ (PySem.pyIter (Value.ref _)) _ _ _)); (first | (k_unfold; (try dsimp only)) | (k_end; wrow_close) | walk1 | (dsimp only; walk1) | (leave1; walk_say "STEP leave1"; try dsimp only)))
      (rename News _ _ _ _ => lN)
      obtain ⟨el, eel⟩ := news_hd lN
      subst eel
      have lel := (by assumption : @LT.lt Nat _ hl el ∧ @LT.lt Nat _ jl el ∧ @LT.lt Nat _ 128 el ∧ AllLt el r2)
      have N2 := news_sw lN
      have off2 : OwnOff r2 [el, jl, hl, 128] := off_new off lel.2.2.2 (by simp)
      (rename Fr _ _ _ _ => lF)
      refine iter_rangeN ["turn", "sort", "key"] (EvJ el jl hl Dj ho r2) (by rfl) (by assumption) (by omega) (by omega) lF N2 (.mk [] [] _ _ _ _ _ _ r2 ⟨by assumption, by assumption, by assumption, by omega⟩ (fun _ h => h) off2 .nil (fun e h => absurd h (List.not_mem_nil)) rfl) ?turn2 ?done2
      case turn2 =>
        intro i ti u nx h8 tk8 own hi hown hJ0 F8 N8
        cases hJ0 with | mk vs evs ne a ta b tb n r3 hjk hs2 off3 hD hok hle => ?_
        obtain ⟨a0, a1, b0, b1⟩ := hjk
        simp only [List.cons_append] at N8
        obtain ⟨r4, hr4⟩ : ∃ r4, r4 = r3 ++ own := ⟨_, rfl⟩
        rw [← hr4] at N8
        have s4 : ∀ p ∈ r2, p ∈ r4 := fun p hp => by rw [hr4]; exact List.mem_append.mpr (.inl (hs2 p hp))
        have off4 := off_app off3 hown (by simp) hr4
        replace qj1 := s4 _ qj1
        replace qc1 := s4 _ qc1
        replace qw1 := s4 _ qw1
        have hi4 : i < 4 := by omega
        have hlv : vs.length = i := by rw [hD.length, List.length_map, hle]
        clear lN lF N2
        k_steps
        · (rename News _ _ _ _ => lN9)
          refine' ev_fin true (i := i) (by k_asm) lN9 ?_ rfl (evok_ev (by assumption) (by assumption)) hs2 off3 hD hok hle (by assumption) (by assumption) hown hr4 ⟨by assumption, by assumption, by assumption, by omega⟩
          intro z hz
          simp at hz
          simp [hz]
        · (rename News _ _ _ _ => lN9)
          refine' ev_fin false (i := i) (by k_asm) lN9 ?_ rfl (evok_sig (by assumption) (by assumption) (by assumption)) hs2 off3 hD hok hle (by assumption) (by assumption) hown hr4 ⟨by assumption, by assumption, by assumption, by omega⟩
          intro z hz
          simp at hz
          simp [hz]
      case done2 =>
        intro k u nx h8 tk8 hk hJ0 F8 N8
        cases hJ0 with | mk vs evs ne a ta b tb n r3 hjk hs2 off3 hD hok hle => ?_
        obtain ⟨a0, a1, b0, b1⟩ := hjk
        dsimp only
        replace qj1 := hs2 _ qj1
        replace qc1 := hs2 _ qc1
        replace qw1 := hs2 _ qw1
        have hk4 : k ≤ 4 := by omega
        clear lN lF N2
        repeat' ((fail_if_success (with_reducible show wpAny _ _ (PySem.pyIter (Value.ref _)) _ _ _)); (first | (k_unfold; (try dsimp only)) | (k_end; wrow_close) | walk1 | (dsimp only; walk1) | (leave1; walk_say "STEP leave1"; try dsimp only)))
        (rename News _ _ _ _ => lN)
        obtain ⟨cl, ecl⟩ := news_hd lN
        subst ecl
        have lcl := (by assumption : @LT.lt Nat _ el cl ∧ @LT.lt Nat _ jl cl ∧ @LT.lt Nat _ hl cl ∧ @LT.lt Nat _ 128 cl ∧ AllLt cl r3)
        have N3 := news_sw lN
        have off4 : OwnOff r3 [cl, jl, el, hl, 128] := off_new off3 lcl.2.2.2.2 (by simp)
        (rename Fr _ _ _ _ => lF)
        (rename World => lW)
        refine iter_rangeN ["turn", "row", "key"] (ChJ lW cl jl el hl Dj (listOf vs.toArray ne) ho r3) (by rfl) (by assumption) (by omega) (by omega) lF N3 (.mk [] _ _ _ _ _ _ r3 ⟨by assumption, by assumption, by assumption, by omega⟩ (fun _ h => h) off4 rfl (fun e h => absurd h (List.not_mem_nil))) ?turn3 ?done3
        case turn3 =>
          intro i ti u nx h9 tk9 own hi hown hJ0 F9 N9
          cases hJ0 with | mk vch nc a ta b tb n r5 hjk hs3 off5 hlv hall => ?_
          obtain ⟨a0, a1, b0, b1⟩ := hjk
          simp only [List.cons_append] at N9
          obtain ⟨r6, hr6⟩ : ∃ r6, r6 = r5 ++ own := ⟨_, rfl⟩
          rw [← hr6] at N9
          have hi9 : i < 9 := by omega
          have off6 := off_app off5 hown (by simp) hr6
          clear lN lF N3
          repeat' ((fail_if_success (with_reducible show wpAny _ _ (PySem.exec (PySem.Stmt.For _ _ _ _ _) _) _ _ _)); (first | (k_unfold; (try dsimp only)) | (k_end; wrow_close) | walk1 | (dsimp only; walk1) | (leave1; walk_say "STEP leave1"; try dsimp only)))
          (rename News _ _ _ _ => lN)
          obtain ⟨rl, erl⟩ := news_hd lN
          subst erl
          have lrl := (by assumption : @LT.lt Nat _ cl rl ∧ @LT.lt Nat _ jl rl ∧ @LT.lt Nat _ el rl ∧ @LT.lt Nat _ hl rl ∧ @LT.lt Nat _ 128 rl ∧ AllLt rl r6)
          have hlo := (by assumption : (rl == sysModules) = false)
          subst hr6
          have N4 := news_sw lN
          have off7 : OwnOff r5 [rl, jl, cl, el, hl, 128] := off_new off5 (allLt_sub lrl.2.2.2.2.2 fun p hp => List.mem_append.mpr (.inl hp)) (by simp)
          have offo : OwnOff own [rl, jl, cl, el, hl, 128] := off_new hown (allLt_sub lrl.2.2.2.2.2 fun p hp => List.mem_append.mpr (.inr hp)) (by simp)
          have offt : OwnOff own (r5.map (·.1)) := own_tail (as := [cl, jl, el, hl, 128]) hown
          clear lN
          (rename Fr _ _ _ _ => lF)
          refine' For_invVF lF ?kf1 ?kf2 ?_
          case kf1 => exact rfl
          case kf2 => exact rfl
          repeat' ((fail_if_success (with_reducible show wpAny _ _ (PySem.pyIter (Value.ref _)) _ _ _)); (first | (k_unfold; (try dsimp only)) | (k_end; wrow_close) | walk1 | (dsimp only; walk1) | (leave1; walk_say "STEP leave1"; try dsimp only)))
          (rename Fr _ _ _ _ => lF)
          (rename News _ _ _ _ => lN)
          refine iter_rangeS (n := 3) ["key"] (RwJ _ rl jl cl el hl Dj (listOf vch.toArray nc) (listOf vs.toArray ne) ho own r5 (30 + 9 * (i : Int))) (by rfl) (by assumption) (by decide) (by decide) lF lN (.mk _ [] _ _ _ _ _ r5 ⟨a0, a1, b0, by omega⟩ (by assumption) (Nat.le_refl _) (fun _ h => h) off7 offt (fun k v h => absurd h (List.not_mem_nil))) ?turn4 ?done4
          case turn4 =>
            intro j tj u2 nx2 h10 tk10 own2 hj hown2 hJ1 F10 N10
            cases hJ1 with | mk ro kvr a ta b tb n r7 hjk hdr hkr hs7 offr offt7 hrow => ?_
            obtain ⟨a0, a1, b0, b1⟩ := hjk
            simp only [List.cons_append] at N10
            obtain ⟨r8, hr8⟩ : ∃ r8, r8 = (r7 ++ own) ++ own2 := ⟨_, rfl⟩
            rw [← hr8] at N10
            have s8 : ∀ p ∈ r3, p ∈ r8 := fun p hp => by rw [hr8]; exact List.mem_append.mpr (.inl (List.mem_append.mpr (.inl (hs7 p (hs3 p hp)))))
            have off8 : OwnOff r8 [rl, jl, cl, el, hl, 128] := off_app (off_app offr offo (fun _ h => h) rfl) hown2 (by simp) hr8
            replace qj1 := s8 _ qj1
            replace qc1 := s8 _ qc1
            replace qw1 := s8 _ qw1
            clear lN lF
            k_steps
            · (rename News _ _ _ _ => lN9)
              refine' row_turn (by k_asm) lN9 ?_ hj (by assumption) hkr hs7 offr offt7 hrow (wok_of (by assumption) (by assumption) (by assumption) (by assumption) (by assumption) (by assumption)) (by assumption) hown2 hr8 ⟨by assumption, by assumption, by assumption, by omega⟩
              intro z hz
              simp at hz
              simp [hz]
            · (rename News _ _ _ _ => lN9)
              refine' row_stay (by k_asm) lN9 ?_ hdr hkr hs7 offr offt7 hrow hown2 hr8 ⟨by assumption, by assumption, by assumption, by omega⟩
              intro z hz
              simp at hz
              simp [hz]
          case done4 =>
            intro u2 nx2 h10 tk10 hJ1 F10 N10
            cases hJ1 with | mk ro kvr a ta b tb n r7 hjk hdr hkr hs7 offr offt7 hrow => ?_
            obtain ⟨a0, a1, b0, b1⟩ := hjk
            dsimp only
            obtain ⟨r9, hr9⟩ : ∃ r9, r9 = r7 ++ own := ⟨_, rfl⟩
            rw [← hr9] at N10
            have off9 : OwnOff r9 [rl, jl, cl, el, hl, 128] := off_app offr offo (fun _ h => h) hr9
            clear lN lF
            k_steps
            (rename News _ _ _ _ => lN9)
            refine' ch_fin (i := i) (by k_asm) lN9 ?_ hlo hdr hkr hrow hs3 hs7 offr offt7 hall hlv lrl hown rfl hr9 ⟨by assumption, by assumption, by assumption, by omega⟩
            intro z hz
            simp at hz
            simp [hz]
        case done3 =>
          intro k3 u nx h9 tk9 hk3 hJ0 F9 N9
          cases hJ0 with | mk vch nc a ta b tb n r5 hjk hs3 off5 hlv hall => ?_
          obtain ⟨a0, a1, b0, b1⟩ := hjk
          dsimp only
          replace qj1 := hs3 _ qj1
          replace qc1 := hs3 _ qc1
          have hk8 : vch.length ≤ 8 := by omega
          have hh3 : HeldOk 3 kvs hv r2 := hh
          have hP3 : ∀ k, 0 ≤ k → k < (3 : Int) → WOk (hv k) := hP
          clear lN lF N3
          repeat' ((fail_if_success (with_reducible show wpAny _ _ (call (Value.ref 138) _) _ _ _)); (first | (k_unfold; (try dsimp only)) | (k_end; wrow_close) | walk1 | (dsimp only; walk1) | (leave1; walk_say "STEP leave1"; try dsimp only)))
          (rename News _ _ _ _ => lN9)
          have w5 : ∀ p ∈ r5, p ∈ (cl, listOf vch.toArray nc) :: (el, listOf vs.toArray ne) :: r5 := fun p hp => .tail _ (.tail _ hp)
          have offw : OwnOff ((cl, listOf vch.toArray nc) :: (el, listOf vs.toArray ne) :: r5) [128, hl] := law_off off5 lel lcl
          refine' wait_w (nk := 3) (P := WOk) (hv := hv) ((cl, listOf vch.toArray nc) :: (el, listOf vs.toArray ne) :: r5) ?k1 ?k2 ?k3 lN9 ?k5 ?kK ?m1 ?m2 ?hr hd (Nat.le_trans hkl (by decide)) ⟨vs, ne, .tail _ (.head _), hD.mono fun p hp => w5 p (hs3 p hp)⟩ hok (by omega) (hh3.mono fun p hp => w5 p (hs3 p (hs2 p hp))) hP3 (.head _) hk8 (fun v hv => (hall v hv).mono w5) (.inl rfl) offw ?hne ?kd ?ku ?_
          case k1 => k_asm
          case k2 => k_asm
          case k3 => k_asm
          case k5 => k_asm
          case kK => first | exact rfl | assumption
          case m1 => k_mem
          case m2 => k_mem
          case hr => intro p hp; simp only [List.mem_cons] at hp ⊢; rcases hp with h | h | h <;> simp only [h, true_or, or_true]
          case hne => show @Ne Nat _ _; omega
          case kd => ktr_room
          case ku => ktr_units
          intro ps2 ho2 kvs2 hv2 q2 h10 tk10 F10 N10 s10 hd10 hh10 hP10 hT10 off10
          have qc2 := s10 _ (w5 _ qc1)
          clear lN9
          repeat' ((fail_if_success (with_reducible show wpAny _ _ (call (Value.ref 145) _) _ _ _)); (first | (k_unfold; (try dsimp only)) | (k_end; wrow_close) | walk1 | (dsimp only; walk1) | (leave1; walk_say "STEP leave1"; try dsimp only)))
          (rename News _ _ _ _ => lN9)
          refine' oth_w ?k1 ?k2 ?k3 lN9 ?k5 ?kK hd10 hh10 hP10 hT10 off10 ?hne ?kd ?ku ?_
          case k1 => k_asm
          case k2 => k_asm
          case k3 => k_asm
          case k5 => k_asm
          case kK => first | exact rfl | assumption
          case hne => show @Ne Nat _ _; omega
          case kd => ktr_room
          case ku => ktr_units
          intro ps3 q3 h11 tk11 F11 N11 hT11 off11
          clear lN9
          repeat' ((fail_if_success (with_reducible show wpAny _ _ (call (Value.ref 138) _) _ _ _)); (first | (k_unfold; (try dsimp only)) | (k_end; wrow_close) | walk1 | (dsimp only; walk1) | (leave1; walk_say "STEP leave1"; try dsimp only)))
          (rename News _ _ _ _ => lN9)
          refine' law_small ?k1 ?k2 ?k3 lN9 ?k5 ?kK ?i0 ?i1 ?i2 ?i3 ?i4 ?y0 ?y1 ?y2 ?y3 ?g ?gl0 ?gD0 ?gd0 ?gD1 ?gd1 ?gd2 ?gD2 ?gD3 ?gd3 ?gl1 ?gE4 ?gE3 ?gE2 ?gE1 ?gS2 ?gS1 ?hq hT11 off11 ?kd ?ku ?_
          case k1 => k_asm
          case k2 => k_asm
          case k3 => k_asm
          case k5 => k_asm
          case kK => first | exact rfl | assumption
          case i0 => assumption
          case i1 => assumption
          case i2 => assumption
          case i3 => assumption
          case i4 => assumption
          case y0 => assumption
          case y1 => assumption
          case y2 => assumption
          case y3 => assumption
          case g => show @LT.lt Nat _ _ _; omega
          case hq => exact And.right (And.right (by assumption))
          all_goals try (show @LT.lt Nat _ _ _; omega)
          case kd => ktr_room
          case ku => ktr_units
          intro ps4 ho4 q4 h12 tk12 F12 N12 hT12 off12
          clear lN9
          k_steps)
end
end Mine
theorem PySem.Challenge.cw_on0093_01_holds : PySem.Challenge.rw_on0093_01.Holds := by
  exact Mine.lawT
