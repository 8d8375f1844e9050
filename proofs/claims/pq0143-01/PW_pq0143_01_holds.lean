import PyProof.Rows.All
import Wide.All
import OpenK.AllK
import Wide.FinOn
import OpenK.ZGo
import KE.KSuper
import KE.KTryDeep
import KE.KSortKey
import PyProof.AttrMissHeap
import KE.KFromBytes
import KE.KDictAnyGet
import KE.KDictSum
import Lean
import PySem.Challenge.RW_pq0143_01
section
open PySem PySem.W PyProof.Rows PySem.Calls PySem.Spec
set_option Elab.async false
set_option maxRecDepth 100000
set_option maxHeartbeats 8000000
namespace MineH
noncomputable abbrev PR : Program := PySem.Challenge.pw_pq0143_01
/-- the run of the text's top, over a tree: N steps at most -/
noncomputable def go (stp : SharedT → Thread → Option (SharedT × Thread)) (ok : Thread → Bool) (N : Nat) : SharedT → Thread → Option SharedT :=
  @Nat.rec (fun _ => SharedT → Thread → Option SharedT) (fun _ _ => none)
    (fun _ ih s t => @Bool.rec (fun _ => Option SharedT)
      (@Bool.rec (fun _ => Option SharedT) none (@Option.rec (SharedT × Thread) (fun _ => Option SharedT) none (fun r => @Bool.rec (fun _ => Option SharedT) none (ih r.1 r.2) (Nat.beq r.1.toks r.1.toks)) (stp s t)) (ok t))
      (some s) (through t)) N
theorem go_of {p : Program} {w : World} {n₀ : Nat} {ann : Option Value} : ∀ {N : Nat} {s s' : SharedT} {t : Thread}, go (stepT (denote treeTable) p w) (stepOk n₀ ann) N s t = some s' → topRun treeTable p w n₀ ann N s.abs t = some s'.abs
  | 0, _, _, _, h => by cases h
  | N + 1, s, s', t, h => by
    unfold topRun
    change @Bool.rec (fun _ => Option SharedT)
      (@Bool.rec (fun _ => Option SharedT) none (@Option.rec (SharedT × Thread) (fun _ => Option SharedT) none (fun r => @Bool.rec (fun _ => Option SharedT) none (go (stepT (denote treeTable) p w) (stepOk n₀ ann) N r.1 r.2) (Nat.beq r.1.toks r.1.toks)) (stepT (denote treeTable) p w s t)) (stepOk n₀ ann t))
      (some s) (through t) = some s' at h
    cases ht : through t with
    | true => rw [ht] at h; cases h; rfl
    | false =>
      rw [ht] at h
      cases hk : stepOk n₀ ann t with
      | false => rw [hk] at h; cases h
      | true =>
        rw [hk] at h
        cases hs : stepT (denote treeTable) p w s t with
        | none => rw [hs] at h; cases h
        | some r =>
          obtain ⟨s₂, t₂⟩ := r
          rw [hs] at h
          rw [stepT_spec hs]
          change @Bool.rec (fun _ => Option SharedT) none (go (stepT (denote treeTable) p w) (stepOk n₀ ann) N s₂ t₂) (Nat.beq s₂.toks s₂.toks) = some s' at h
          rw [Nat.beq_refl] at h
          exact go_of h
noncomputable def bt (P : Params) : BT :=
  .node (boot_o_0 P) (.node (boot_o_1 P) (.node (boot_o_3 P) (.node (boot_o_7 P) .nil .nil) .nil) (.node (boot_o_5 P) (.node (boot_o_9 P) .nil .nil) .nil))
    (.node (boot_o_2 P) (.node (boot_o_4 P) (.node (boot_o_8 P) .nil .nil) .nil) (.node (boot_o_6 P) (.node (boot_o_10 P) .nil .nil) .nil))
theorem bt_heap : ∀ P, absHeap (bt P) 11 (boot_heap P).life = boot_heap P := fun P => by kernel_rfl
theorem size0 : ∀ w : World, ((boot_heap w.params).isNs mainGlobals && (Array.mk ([] : List GenState)).size == 0, (boot_heap w.params).objs.size, (boot_heap w.params).nsMap mainGlobals "__annotations__") = (true, 11, some (.ref 6)) := fun w => by kernel_rfl
noncomputable def s0 (w : World) (os : OsState) : SharedT := ⟨bt w.params, 11, (boot_heap w.params).life, Array.mk [], boot_drawn, boot_toks, os⟩
theorem boot0 : ∀ w : World, (fencedOpening treeTable PR w 2500).map (fun s => (s.heap, s.gens, s.drawn, s.toks)) = some (boot_heap w.params, Array.mk [], boot_drawn, boot_toks) :=
  boot_open (by kernel_rfl) (by decide) (fun s => by kernel_rfl)
theorem left_of {q : Program} {loose : List Str} {Xt : Shared → Bool} {α : Type} {Yf : Shared → α} {Ya : World → α}
    (look : ∀ (w : World) (os : OsState), (go (stepT (denote treeTable) PR w) (stepOk 11 (some (.ref 6))) 2500 (s0 w os) (topStub PR)).map (fun s =>
      ((staticsOk (importedModules PR.main.body) (boot_heap w.params) s.abs.heap && namesBound PR s.abs.heap && gensDone s.abs && laidKept (boot_heap w.params) s.abs.heap),
        openSeen q loose (importedModules PR.main.body) Xt true s.abs, Yf s.abs)) = some (true, openGood q loose, Ya w)) : LeftO PR q loose Xt Yf Ya 2500 true := fun w => by
  obtain ⟨⟨h, gs, d, k, os⟩, e, e'⟩ := Option.map_eq_some_iff.mp (boot0 w)
  obtain ⟨rfl, rfl, rfl, rfl⟩ : h = boot_heap w.params ∧ gs = Array.mk [] ∧ d = boot_drawn ∧ k = boot_toks := by simpa using e'
  obtain ⟨z1, z2, z3⟩ : _ ∧ _ ∧ _ := by simpa only [Prod.mk.injEq] using size0 w
  obtain ⟨s, hs, l⟩ := Option.map_eq_some_iff.mp (look w os)
  obtain ⟨l1, l2⟩ := Prod.mk.inj l
  have r := go_of hs
  have e0 : (s0 w os).abs = ⟨boot_heap w.params, Array.mk [], boot_drawn, boot_toks, os⟩ := congrArg (fun h => (⟨h, Array.mk [], boot_drawn, boot_toks, os⟩ : Shared)) (bt_heap w.params)
  rw [e0] at r
  have t : topFrom treeTable PR w 2500 ⟨boot_heap w.params, Array.mk [], boot_drawn, boot_toks, os⟩ = some s.abs := by
    unfold topFrom
    dsimp only
    rw [z1, z2, z3, r]
    show (match staticsOk (importedModules PR.main.body) (boot_heap w.params) s.abs.heap && namesBound PR s.abs.heap && gensDone s.abs && laidKept (boot_heap w.params) s.abs.heap with | true => _ | false => _) = _
    rw [l1]
  unfold openEnds
  rw [e]
  show (topFrom treeTable PR w 2500 _).map _ = _
  rw [t]
  exact congrArg some l2
open PySem.W.Fast in
theorem left_quick {q : Program} {loose : List Str} {Xt : Shared → Bool} {α : Type} {Yf : Shared → α} {Ya : World → α}
    (look : ∀ (w : World) (b : Bool) (os : OsState), (go (tw10156331382660048174 (tw11892475500146522536 tw14364793385576792824) PR (w.withFollow "special-get-raises" b)) (tw6613529449190102663 11 (some (.ref 6))) 2500 (s0 (w.withFollow "special-get-raises" b) os) (topStub PR)).map (fun s =>
      ((staticsOk (tw5923862056798008813 PR.main.body) (boot_heap (w.withFollow "special-get-raises" b).params) s.abs.heap && namesBound PR s.abs.heap && gensDone s.abs && laidKept (boot_heap (w.withFollow "special-get-raises" b).params) s.abs.heap),
        tw4187177175401517315 q loose (tw5923862056798008813 PR.main.body) Xt true s.abs, Yf s.abs)) = some (true, openGood q loose, Ya (w.withFollow "special-get-raises" b))) : LeftO PR q loose Xt Yf Ya 2500 true := by
  rw [← te10156331382660048174, ← te11892475500146522536, ← te14364793385576792824, ← te6613529449190102663, ← te5923862056798008813, ← te4187177175401517315] at look
  refine left_of ?_
  exact byRow2 "special-get-raises" (fun w => look w false) (fun w => look w true)
noncomputable def hd.view_39 : Program   := PySem.W.view PySem.Challenge.pw_pq0143_01 [1, 3, 4, 5, 6, 7, 8, 9, 10, 11, 12, 13, 14, 15, 16, 17, 18, 19, 20, 21, 22, 23, 24, 25, 26, 27, 28, 29, 30, 31, 33, 34, 35, 36, 37, 38, 39, 40, 41, 43, 44, 45, 46, 47, 48]
section
local macro_rules | `(tactic| o_head $_) => `(tactic| assumption)
theorem hd (h : PySem.Challenge.rw_pq0143_01.row.Holds) : PySem.Challenge.rw_pq0143_01.row.Holds := by x_head
end
noncomputable abbrev ats : List Addr := [0,1,2,3,4,5,6,7,8,9,10,11,12,13,14,15,18,23,24,25,26,27,28,29,30,31,32,33,34,35,38,39,40,41,42,43,44,45,46,47,48,49,50,51,52,53,54,55,56,57,58,59,60,61,62,63,64,65,66,67,68,69,70,71,72,73,74,75,76,77,78,79,80,81,82,83,84,85,86,87,88,89,90,91,92,93,94,95,96,97,98,99,100,101,102,103,104,105,106,107,108,109,110,111,112,113,114,115,116,117,118,119,120,121,122,123,124,125,126,127,128,129,130,131,132,133,134,135,136,137,138,139,140,141,142,143,144,145,146,147,148,149,150,151,152,153,154,155,156,157,158,159,160,161,162,163,164,165,166,167,168,169,170,171,172,173,174,175,176,177,178,179,180,181,182,183,184,185,186,187,188,189,190,191,192,193,194,195,196,197,198,199,200,201,202,203,204,205,206,207,215,216,217,218,219,220,221,222,223,224,225,226,227,228,229,230,231,232,233,234,235,236,237,238,239,240,241,242,243,244,245,246,247,248,249,250,251,252,253,254,257,258,259,260,261,262,263,264,265,266,267,268,269,270,271,272,273,274,275,276,277,278,279,280,281,282,283,284,285,286,287,288,289,290,291,292,293,294,295,296,297,298,299,300,301,302,303]
theorem ats_ok : ∀ P, ats = (_root_.MineH.hd.heap_1 P).map (·.1) := fun _ => by kernel_rfl
abbrev Look (b : Bool) : Prop := ∀ (w : World) (os : OsState), (go (PySem.W.Fast.tw10156331382660048174 (PySem.W.Fast.tw11892475500146522536 PySem.W.Fast.tw14364793385576792824) PR (w.withFollow "special-get-raises" b)) (PySem.W.Fast.tw6613529449190102663 11 (some (.ref 6))) 2500 (s0 (w.withFollow "special-get-raises" b) os) (topStub PR)).map (fun s =>
      ((staticsOk (PySem.W.Fast.tw5923862056798008813 PR.main.body) (boot_heap (w.withFollow "special-get-raises" b).params) s.abs.heap && namesBound PR s.abs.heap && gensDone s.abs && laidKept (boot_heap (w.withFollow "special-get-raises" b).params) s.abs.heap),
        PySem.W.Fast.tw4187177175401517315 _root_.MineH.hd.view_39 [Str.ofString "BasicError", Str.ofString "PAIRS"] (PySem.W.Fast.tw5923862056798008813 PR.main.body) (fun s => xlAt _root_.MineH.hd.view_39 [] s && recOk [] s) true s.abs, (kHook _root_.MineH.hd.heap_1 ats ats_ok).obs s.abs)) = some (true, openGood _root_.MineH.hd.view_39 [Str.ofString "BasicError", Str.ofString "PAIRS"], (kHook _root_.MineH.hd.heap_1 ats ats_ok).val (w.withFollow "special-get-raises" b))
theorem look_f : Look false := fun w os => by kernel_rfl
theorem look_t : Look true := fun w os => by kernel_rfl
section
local macro_rules | `(tactic| o_law) => `(tactic| refine holds_law ((congrFun PySem.W.Fast.te9446332074065402090 _).trans (by kernel_rfl)) fun said => ?_)
local macro_rules | `(tactic| k_head) => `(tactic| (
  refine holds_open (q := _root_.MineH.hd.view_39) (loose := [Str.ofString "BasicError", Str.ofString "PAIRS"]) (Xt := fun s => xlAt _root_.MineH.hd.view_39 [] s && recOk [] s) (XP := XL _root_.MineH.hd.view_39 []) (Yf := Hook.obs (kHook _root_.MineH.hd.heap_1 MineH.ats MineH.ats_ok)) (Ya := Hook.val (kHook _root_.MineH.hd.heap_1 MineH.ats MineH.ats_ok)) (YP := Hook.says (kHook _root_.MineH.hd.heap_1 MineH.ats MineH.ats_ok)) (N := 2500) ?hl (Hook.of (kHook _root_.MineH.hd.heap_1 MineH.ats MineH.ats_ok)) (Hook.keeps (kHook _root_.MineH.hd.heap_1 MineH.ats MineH.ats_ok)) (fun s e => xl_of s (Bool.and_eq_true_iff.mp e).1) XL.keeps (by rfl) (by rfl) (by rfl) (fun s e => recFacts_of (Bool.and_eq_true_iff.mp e).2) (by rfl) (by assumption) (by decide +kernel) ⟨rfl, rfl, rfl, rfl, rfl, by decide +kernel⟩ ?hw ?hc
  (case hl => exact MineH.left_quick (fun w b os => match b with | false => MineH.look_f w os | true => MineH.look_t w os))))
open_top hdT for PySem.Challenge.rw_pq0143_01
end
end MineH
end
open PySem PySem.W PySem.Calls PyProof.Rows PySem.Spec
set_option Elab.async false
set_option maxRecDepth 100000
set_option maxHeartbeats 8000000
set_option pp.deepTerms false
set_option pp.maxSteps 2500
set_option linter.unusedVariables false
set_option compiler.extract_closed false
local macro_rules | `(tactic| k_in) => `(tactic| first | k_in_fast | exact Frag.In.keeps (by k_asm) (Fr.keep (by k_asm)))
local macro_rules | `(tactic| walk_at $s:str) => `(tactic| k_extra $s)
local macro_rules | `(tactic| k_ne) => `(tactic| (refine neN ?_; (try dsimp only); first | k_extra "ne" | omega))
local macro_rules | `(tactic| k_all) => `(tactic| first | with_reducible assumption | exact List.forall_mem_nil _)
/-! Exc1 -/
namespace Mine
theorem start_Exc1 : True := by
  w_top off
  trivial
abbrev bm0 : List Value := [.type "Exception", .type "BaseException", .type "object"]
abbrev tupObj (rest : List Value) : Obj := { cls := .type "tuple", data := .seq rest.toArray }
abbrev excObj (C t : Addr) : Obj := { cls := .ref C, data := .fields #[.ref t, .none, .none, .none, .bool false, .none] }
section
variable {prog : Program} {w : World} {A : Around} {K : Frag} {C N : Addr} {R : Result → Shared → Prop} {h : Heap} {g : Array GenState} {d : Drawn} {t : Nat} {os : OsState}
  {nm q : Str} {bs : List Value} {hdct : Bool} {sn : List Str} {sub : List Value} {ab : Bool} {col : Option Bool} {dd : Option Addr} {k0 k1 k2 k3 k5 : Option Value}
theorem make_exc {rest : List Value} {init : Value} (hC : h.get? C = some (excClassObj nm q C N bs bm0 hdct sn sub ab col dd k0 k1 k2 k3 k5 "Exception.__new__"))
    (hi : Looks (model prog w) h (typeLookup (.ref C) "__init__") (some init)) (call : Looks (model prog w) h (specialOf (.ref C) "__call__") (some (.builtin "type.__call__")))
    (hb : ∀ self, Looks (model prog w) h (bindSpecial init self) (init, [self])) (hr : rest.length ≤ sizeLine)
    (hq : codeAny (model prog w) (A.under (.builtin "type.__call__" ⟨.ref C :: rest, []⟩)) (.call init ⟨.ref (h.objs.size + 1) :: rest, []⟩) (InitBack (h.objs.size + 1) R) ⟨(h.push (tupObj rest)).push (excObj C h.objs.size), g, d, t, os⟩) :
    codeAny (model prog w) A (.call (.ref C) ⟨rest, []⟩) R ⟨h, g, d, t, os⟩ := by
  have FE := PySem.F.excBase_Exception
  refine codeAny_of_tree ?_
  show wpAny _ _ (callAny (.ref C) _) _ _ _
  refine nd_load hC ?_
  show wpAny _ _ (callAny.viaDunder (.ref C) _) _ _ _
  unfold callAny.viaDunder
  refine wpAny_bind (call.at ?_)
  dsimp only
  rw [tc_bind]
  refine wpAny_bind (wpAny_pure (wpAny_bind (wpAny_pure ?_)))
  refine wpAny_pure (a := Fin.again (.call (.builtin "type.__call__") ⟨.ref C :: rest, []⟩)) (And.intro rfl ?_)
  refine codeAny_call_builtin_at (Code.quiet_builtin _ (by decide +kernel)) entry_typeCall (wpAny_check_type_call_sub hC ?_)
  unfold Builtin.«type.__call__»
  have hm : Looks (model prog w) h (mroOf (.ref C)) (.ref C :: bm0) := ((Looks.ld (part := none) hC).andThen .now).andThen .now
  repeat (first | with_reducible refine wpAny_madeBy_exc hC ?_ | with_reducible refine wpAny_call ?_ | lk)
  refine codeAny_call_builtin_code (Code.quiet_builtin _ FE.quiet) (wpAny_check_new_sub FE hC ?_)
  refine codeAny_exc_new_sub FE hC ?_ hr
  have k : ∀ b o, h.get? b = some o → ((h.push (tupObj rest)).push (excObj C h.objs.size)).get? b = some o := fun b o e => Heap.get?_push_of_some _ (Heap.get?_push_of_some _ e)
  have hx : ((h.push (tupObj rest)).push (excObj C h.objs.size)).get? (h.objs.size + 1) = some (excObj C h.objs.size) := by heap_get
  have t1 : Looks (model prog w) ((h.push (tupObj rest)).push (excObj C h.objs.size)) (typeOf (.ref (h.objs.size + 1))) (.ref C) := (Looks.ld hx).andThen .now
  have hC' := k _ _ hC
  have s1 : Looks (model prog w) ((h.push (tupObj rest)).push (excObj C h.objs.size)) (isSubtype (.ref C) (.ref C)) true := by
    intro A Q E s kk qq
    obtain ⟨hh, g, d, t, os⟩ := s
    refine wpAny_isSubtype_exc (kk _ _ hC') ?_
    rw [show (Value.ref C :: bm0).contains (Value.ref C) = true by simp]
    exact qq
  have i1 := hi.keeps k
  have b1 := (hb (.ref (h.objs.size + 1))).keeps k
  unfold isInstance callSpecial? specialOf
  repeat (first | with_reducible refine wpAny_call ?_ | lk)
  refine codeAny_mono hq fun r s' z => ?_
  rcases r with e | (v | _ | _ | _) <;> first | exact z | exact z.elim | skip
  obtain ⟨rfl, z⟩ := z
  exact wpAny_pure (wpAny_pure z)
end
end Mine
/-! D6 -/
namespace Mine
theorem start_D6 : True := by
  w_top off
  trivial
section
variable {prog : Program} {w : World} {M : Model} {A : Around} {E : Value → Shared → Prop} {h : Heap} {g : Array GenState} {d : Drawn} {t : Nat} {os : OsState}
theorem look_wget : typeLookup (.type "wrapper_descriptor") "__get__" = pure (some (.builtin "wrapper_descriptor.__get__")) := by rw [typeLookup_type, builtinLookup_eq_fast]; kernel_rfl
theorem type_einit : typeOf (.builtin "Exception.__init__") = pure (.type "wrapper_descriptor") := by show builtinType _ = _; rw [builtinType_eq_fast]; kernel_rfl
theorem slot_wget : PySem.Slot "wrapper_descriptor" "__get__" "wrapper_descriptor.__get__" := .of (owner := "wrapper_descriptor") (n := "__get__") look_wget (by decide +kernel) (by decide +kernel) (by decide +kernel)
  (by first | exact .inl (by decide +kernel) | exact .inr (by decide +kernel)) (by rw [isSubtype_type]; kernel_rfl)
theorem entry_wget : entryFor table "wrapper_descriptor.__get__" = some Builtin.«wrapper_descriptor.__get__» := entryFor_of_tree (by kernel_rfl)
theorem args_wget (a b c : Value) : argsOk "wrapper_descriptor.__get__" ⟨[a, b, c], []⟩ := by unfold argsOk; kernel_rfl
theorem super_ga_exc {so x C : Addr} {l₀ l : List Value} {K : Frag} {name : Str} {tk : Tok} {Q : Fin → Shared → Prop} {id : String}
    (hso : h.get? so = some { cls := .type "super", dict := none, data := .fields #[.ref C, .ref x, .ref C], slots := #[] }) (hno : Looks (model prog w) h (opaqueClassAbove (.ref C)) none)
    (hC : Looks (model prog w) h (mroOf (.ref C)) l₀) (hl : (l₀.dropWhile (· != .ref C)).drop 1 = l) (X : K.In h)
    (hf : alongIn K name l = some (some (.builtin "Exception.__init__"))) (hT : Looks (model prog w) h (typeOf (.ref x)) (.ref C)) (hS : Looks (model prog w) h (isSubtype (.ref C) (.type "Exception")) true) (hxC : x ≠ C) (hn : (name == ("__class__" : Str)) = false)
    (hq : Q (.done (.ret (.ref h.objs.size))) ⟨h.push { cls := .type "method-wrapper", data := .fields #[.builtin "Exception.__init__", .ref x] }, g, d, t, os⟩) :
    wpAny (model prog w) A (Builtin.«super.__getattribute__» ⟨[.ref so, .str name tk], []⟩) Q E ⟨h, g, d, t, os⟩ := by
  have hlk := look_wget
  have hty := type_einit
  have hne : (Value.ref x == Value.ref C) = false := by simp [hxC]
  have hdt : ({ cls := .type "super", dict := none, data := .fields #[.ref C, .ref x, .ref C], slots := #[] } : Obj).data = .fields #[.ref C, .ref x, .ref C] := rfl
  have f0 : (#[.ref C, .ref x, .ref C] : Array Value)[0]? = some (.ref C) := rfl
  have f1 : (#[.ref C, .ref x, .ref C] : Array Value)[1]? = some (.ref x) := rfl
  have f2 : (#[.ref C, .ref x, .ref C] : Array Value)[2]? = some (.ref C) := rfl
  unfold Builtin.«super.__getattribute__»
  repeat (first
    | (with_reducible refine wpAny_field hso hdt f0 ?_) | (with_reducible refine wpAny_field hso hdt f1 ?_) | (with_reducible refine wpAny_field hso hdt f2 ?_)
    | (with_reducible refine ks_wpAny_notOpaque hno ?_)
    | (with_reducible refine Looks.at hC ?_; rw [hl])
    | (refine ks_forIn_along X (fun _ _ => rfl) rfl ?_ hf)
    | (with_reducible refine wpAny_of_eq hty ?_)
    | (simp only [hn, hne, Bool.or_false, Bool.false_eq_true, if_false])
    | wp_step
    | dsimp only)
  refine codeAny_call_builtin slot_wget.plain entry_wget (slot_wget.check _ _ _ _ _ _ _ _ type_einit (args_wget _ _ _) ?_)
  unfold Builtin.«wrapper_descriptor.__get__»
  repeat (first
    | (with_reducible refine Looks.at hT ?_)
    | (with_reducible refine Looks.at hS ?_)
    | wp_step
    | dsimp only)
  rw [show ".".intercalate ("Exception.__init__".cutAt '.').dropLast = "Exception" from by decide +kernel]
  refine Looks.at hS ?_
  repeat (first | wp_step | dsimp only)
  all_goals exact hq
end
end Mine
/-! D7 -/
namespace Mine
theorem start_D7 : True := by
  w_top off
  trivial
section
variable {prog : Program} {w : World} {M : Model} {A : Around} {E : Value → Shared → Prop} {h : Heap} {g : Array GenState} {d : Drawn} {t : Nat} {os : OsState}
theorem get_super_exc {so x C : Addr} {l₀ l : List Value} {K : Frag} {pl : Sem Bool} {Q : Value × List Value → Shared → Prop}
    (hso : h.get? so = some { cls := .type "super", dict := none, data := .fields #[.ref C, .ref x, .ref C], slots := #[] }) (hno : Looks (model prog w) h (opaqueClassAbove (.ref C)) none)
    (hC : Looks (model prog w) h (mroOf (.ref C)) l₀) (hl : (l₀.dropWhile (· != .ref C)).drop 1 = l) (X : K.In h)
    (hf : alongIn K "__init__" l = some (some (.builtin "Exception.__init__"))) (hT : Looks (model prog w) h (typeOf (.ref x)) (.ref C)) (hS : Looks (model prog w) h (isSubtype (.ref C) (.type "Exception")) true) (hxC : x ≠ C)
    (hq : Q (.ref h.objs.size, []) ⟨h.push { cls := .type "method-wrapper", data := .fields #[.builtin "Exception.__init__", .ref x] }, g, d, t + 1, os⟩) :
    wpAny (model prog w) A (getMethod (.ref so) "__init__" pl) Q E ⟨h, g, d, t, os⟩ := by
  have hlk := F.ks_slot_super_ga.lookup
  have hcan := F.ks_canon_super_ga
  have hTs : ∀ t', (⟨h, g, d, t', os⟩ : Shared).TypeIs (.ref so) "super" := fun _ => ⟨_, hso, rfl⟩
  unfold getMethod
  refine wpAny_bind (wpAny_specialOf (hTs _) hlk ?_)
  show wpAny _ _ (if (Manifest.canonical "super.__getattribute__" != "object.__getattribute__") = true then _ else _) _ _ _
  rw [if_pos hcan]
  unfold getAttr getAttrBy
  refine wpAny_bind (wpAny_bind (wpAny_mkText (wpAny_holding (wpAny_bind (wpAny_typeOf (hTs _) (wpAny_bind (wpAny_of_eq hlk ?_)))))))
  show wpAny _ _ (getAttrByItsOwn (.ref so) (.str "__init__" t) (.type "super") (.builtin "super.__getattribute__") true false) _ _ _
  unfold getAttrByItsOwn hookBefore callGetattribute boundAndCalled
  refine wpAny_bind (wpAny_of_eq (show (if onTheHeap (.type "super") then typeLookup (.type "super") "__getattr__" else pure none) = pure none from rfl) ?_)
  refine wpAny_bind (wpAny_attempt (wpAny_holding ?_))
  show wpAny _ _ (bindSpecial (.builtin "super.__getattribute__") (.ref so) >>= _) _ _ _
  refine wpAny_bind (wpAny_of_eq (F.ks_slot_super_ga.bind _) ?_)
  refine wpAny_mono (Q := fun v s' => v = .ref h.objs.size ∧ s' = ⟨h.push { cls := .type "method-wrapper", data := .fields #[.builtin "Exception.__init__", .ref x] }, g, d, t + 1, os⟩) (E := fun _ _ => False)
    (wpAny_call_entry F.ks_slot_super_ga (hTs _) F.ks_entry_super_ga (super_ga_exc (id := "") hso hno hC hl X hf hT hS hxC (by decide) ⟨_, rfl, rfl, rfl⟩) (F.ks_gaArgs_super _ _)) (fun v s' hv => ?_) fun _ _ z => z.elim
  obtain ⟨rfl, rfl⟩ := hv
  exact wpAny_pure (wpAny_pure hq)

theorem call_mw {mw x : Addr} {v : Value} {nm q : Str} {N : Addr} {bs : List Value} {hdct : Bool} {sn : List Str} {sub : List Value} {ab : Bool} {col : Option Bool} {dd : Option Addr} {k0 k1 k2 k3 k5 : Option Value} {z : Addr} {R : Result → Shared → Prop} (hb : h.get? mw = some { cls := .type "method-wrapper", data := .fields #[.builtin "Exception.__init__", .ref x] }) (hx : h.get? x = some (excObj 34 z)) (hC : h.get? 34 = some (excClassObj nm q 34 N bs bm0 hdct sn sub ab col dd k0 k1 k2 k3 k5 "Exception.__new__"))
   (hq : R (.ok (.ret .none)) ⟨(h.push (tupObj [v])).update x (Obj.mapFields (·.setIfInBounds 0 (.ref h.objs.size))), g, d, t, os⟩) :
   codeAny (model prog w) A (.call (.ref mw) ⟨[v], []⟩) R ⟨h, g, d, t, os⟩ := by
  have FE := PySem.F.excBase_Exception
  refine codeAny_of_tree ?_
  show wpAny _ A.in1 (callAny (.ref mw) _) _ _ _
  unfold callAny
  refine wpAny_bind (wpAny_load hb ?_)
  repeat (first | (refine wpAny_of_eq (check_star_args _ _ _ _ _ _) ?_) | lk)
  refine ⟨plainId_quiet FE.init.plain _, ?_⟩
  show codeAny (model prog w) A (Code.builtin "Exception.__init__" { pos := [Value.ref x, v] }) R _
  refine codeAny_builtin FE.initEntry ?_
  unfold Builtin.«BaseException.__init__»
  wp_walk
  exact hq
end
end Mine
/-! D8 -/
namespace Mine
theorem start_D8 : True := by
  w_top off
  trivial
def cd34 : ClassData := { name := "BasicError", bases := [.type "Exception"], mro := [.ref 34, .type "Exception", .type "BaseException", .type "object"], ns := 33, qualname := "BasicError" }
section
variable {prog : Program} {w : World} {M : Model} {A : Around} {E : Value → Shared → Prop} {h : Heap} {g : Array GenState} {d : Drawn} {t : Nat} {os : OsState}
abbrev mwObj (x : Addr) : Obj := { cls := .type "method-wrapper", data := .fields #[.builtin "Exception.__init__", .ref x] }
theorem keeps_MW {q x : Addr} (h : Heap) (X : h.get? q = some (mwObj x)) : ∃ k, (k = Keeper.frame ∨ k = Keeper.machine ∨ k = Keeper.boundFrame) ∧ Looks M h (keeperOf (.ref q)) k :=
  ⟨.machine, .inr (.inl rfl), (Looks.ld (part := none) X).andThen .now⟩
theorem callWith_MW {s : Shared} {env : Env} {pos : Pos} {first : List Value} {Q : Value → Shared → Prop} {q x : Addr} {e : Expr} {rest : List Expr}
    (h : wpAny M A (spliced (backTo pos (starEach (e :: rest) env))) (fun vs s₁ => s₁.heap.get? q = some (mwObj x) ∧ wpAny M A (call (.ref q) (first ++ vs)) Q E s₁) E s)
    (he : starEach (e :: rest) env = (false, eval e env) :: starEach rest env := by rfl) (hplain : (backTo pos (starEach rest env)).any (·.1) = false := by rfl) :
    wpAny M A (callWith pos (.ref q) first (backTo pos (starEach (e :: rest) env)) []) Q E s := by
  rw [he] at h ⊢
  exact callWith_of (by show ((false || (backTo pos (starEach rest env)).any (·.1)) || false) = false; rw [hplain]; rfl) (keeps_MW (x := x)) (evalArgs_plain h)
theorem own_set1 : ownIn [] "__setattr__" (.type "Exception") = some none := by kernel_rfl
theorem own_set2 : ownIn [] "__setattr__" (.type "BaseException") = some none := by kernel_rfl
theorem own_set3 : ownIn [] "__setattr__" (.type "object") = some (some (.builtin "object.__setattr__")) := by kernel_rfl
theorem isobj : Builtin.ObjectAttr.isObjects "object" (Str.ofString "__setattr__").toString = true := by decide +kernel
theorem nil_in (h : Heap) : Frag.In [] h := fun _ _ e => by cases e
theorem setattr_exc1 {K : Frag} {x L : Addr} {h₀ : Heap} {m : Str → Option Value} {news : List (Addr × Obj)} {vs : Array Value} {name : Str} {v : Value} {Q : Unit → Shared → Prop} (F : Fr h₀ L h m) (X₀ : K.In h₀)
    (N : News h₀ L h ((x, { cls := .ref 34, data := .fields vs }) :: news)) (hnn : ∀ p ∈ news, p.1 ≠ x)
    (h34 : clsIn K 34 = some cd34)
    (hs : findIn K (.ref 34) "__setattr__" = some (some (.builtin "object.__setattr__"))) (ht : takerIn K 34 name = some none) (hf : findIn K (.ref 34) name = some none)
    (hq : ∀ h' dx, Fr h₀ L h' m → News h₀ L h' ((dx, dictOf [⟨PyData.keyHash w.params name, .str name (t + 1), v⟩] 1) :: (x, { cls := .ref 34, dict := some dx, data := .fields vs }) :: news) → dx ≠ x → (∀ p ∈ news, p.1 ≠ dx) → Q () ⟨h', g, d, t + 2, os⟩) :
    wpAny (model prog w) A (setAttr (.ref x) name v) Q E ⟨h, g, d, t, os⟩ := by
  have X := X₀.keeps F.keep
  have hx := N.get (.head _)
  have SF := PySem.F.store_object
  have I : InstAt h x { cls := .ref 34, data := .fields vs } 34 none := ⟨hx, rfl, rfl, trivial⟩
  refine set_plain X I hs ?_
  have sub : Looks (model prog w) h (isInstance (.ref x) (.type "object")) true := I.type.andThen (looks_mroIn X (by unfold mroIn; rw [h34]; rfl))
  refine codeAny_call_builtin SF.slot.plain SF.entry (@check_slot (model prog w) _ _ _ "object.__setattr__" "object" "__setattr__" (.ref x) [.str name _, v] [] _ SF.kind SF.split sub (SF.args (.ref x) (.str name _) v) ?_)
  have tp := I.type (M := model prog w)
  have lc := looks_clsIn (M := model prog w) X h34
  have lf := looks_findIn (M := model prog w) X hf
  have o1 := looks_ownIn (M := model prog w) (nil_in h) own_set1
  have o2 := looks_ownIn (M := model prog w) (nil_in h) own_set2
  have o3 := looks_ownIn (M := model prog w) (nil_in h) own_set3
  unfold Builtin.«object.__setattr__»
  repeat (first | rw [isobj] | lk)
  have hne : h.objs.size ≠ x := Nat.ne_of_gt (Heap.lt_size hx)
  have F1 := F.push { cls := Value.type "dict", data := Data.dict #[] }
  have N1 := N.push F { cls := Value.type "dict", data := Data.dict #[] }
  have hnew : ∀ p ∈ news, p.1 ≠ h.objs.size := fun p hp => Nat.ne_of_lt (Heap.lt_size (N p (.tail _ hp)).1)
  show wpAny _ _ (updatePart x none (fun o => { cls := o.cls, dict := some h.objs.size, data := o.data, slots := o.slots })) _ _ _
  refine wpAny_updatePart (N1.get (.tail _ (.head _))) ?_
  obtain ⟨F2, N2⟩ := news_upd (f := fun o => { cls := o.cls, dict := some h.objs.size, data := o.data, slots := o.slots }) (pre := [(h.objs.size, { cls := Value.type "dict", data := Data.dict #[] })]) (post := news) F1 N1
    (fun p hp => by rw [List.mem_singleton.mp hp]; exact hne) hnn rfl rfl
  have hD2 := N2.get (.head _)
  unfold Builtin.ObjectAttr.storeInDict
  repeat (first | lk)
  show wpAny _ _ (updatePart h.objs.size (some (.str name 0)) (Obj.putName name (PyData.keyHash w.params name) (.str name (t + 1)) v)) _ _ _
  refine wpAny_updatePart hD2 ?_
  obtain ⟨F3, N3⟩ := news_upd (f := Obj.putName name (PyData.keyHash w.params name) (.str name (t + 1)) v) (o' := dictOf [⟨PyData.keyHash w.params name, .str name (t + 1), v⟩] 1) (pre := []) F2 N2
    (fun p hp => nomatch hp) (fun p hp => by rcases List.mem_cons.mp hp with rfl | hp; exact Ne.symm hne; exact hnew p hp) rfl rfl
  refine wpAny_bind (wpAny_lookBehind (N3.get (.head _)) (by first | rfl | decide) ?_)
  refine wpAny_pure ?_
  exact hq _ _ F3 N3 hne hnew
theorem setattr_exc2 {K : Frag} {x dx L : Addr} {h₀ : Heap} {m : Str → Option Value} {news : List (Addr × Obj)} {vs : Array Value} {name : Str} {v : Value} {Q : Unit → Shared → Prop} {es es' : List DictEntry} {n n' : Nat} (F : Fr h₀ L h m) (X₀ : K.In h₀)
    (N : News h₀ L h ((dx, dictOf es n) :: (x, { cls := .ref 34, dict := some dx, data := .fields vs }) :: news)) (hxd : dx ≠ x) (hnn : ∀ p ∈ news, p.1 ≠ dx)
    (h34 : clsIn K 34 = some cd34)
    (hs : findIn K (.ref 34) "__setattr__" = some (some (.builtin "object.__setattr__"))) (ht : takerIn K 34 name = some none) (hf : findIn K (.ref 34) name = some none)
    (hl : aRefKeyMayBeTheName name es.toArray = false) (e : Obj.putName name (PyData.keyHash w.params name) (.str name (t + 1)) v (dictOf es n) = dictOf es' n') (hz : (dictOf es' n').data.pastItsLine = none)
    (hq : ∀ h', Fr h₀ L h' m → News h₀ L h' ((dx, dictOf es' n') :: (x, { cls := .ref 34, dict := some dx, data := .fields vs }) :: news) → Q () ⟨h', g, d, t + 2, os⟩) :
    wpAny (model prog w) A (setAttr (.ref x) name v) Q E ⟨h, g, d, t, os⟩ := by
  have X := X₀.keeps F.keep
  have hx := N.get (.tail _ (.head _))
  have hd := N.get (.head _)
  have SF := PySem.F.store_object
  have I : InstAt h x { cls := .ref 34, dict := some dx, data := .fields vs } 34 (some (dictOf es n)) := ⟨hx, rfl, rfl, hd⟩
  refine set_plain X I hs ?_
  have sub : Looks (model prog w) h (isInstance (.ref x) (.type "object")) true := I.type.andThen (looks_mroIn X (by unfold mroIn; rw [h34]; rfl))
  refine codeAny_call_builtin SF.slot.plain SF.entry (@check_slot (model prog w) _ _ _ "object.__setattr__" "object" "__setattr__" (.ref x) [.str name _, v] [] _ SF.kind SF.split sub (SF.args (.ref x) (.str name _) v) ?_)
  have tp := I.type (M := model prog w)
  have lc := looks_clsIn (M := model prog w) X h34
  have lf := looks_findIn (M := model prog w) X hf
  have o1 := looks_ownIn (M := model prog w) (nil_in h) own_set1
  have o2 := looks_ownIn (M := model prog w) (nil_in h) own_set2
  have o3 := looks_ownIn (M := model prog w) (nil_in h) own_set3
  unfold Builtin.«object.__setattr__»
  repeat (first | rw [isobj] | rw [hl] | lk)
  show wpAny _ _ (updatePart dx (some (.str name 0)) (Obj.putName name (PyData.keyHash w.params name) (.str name (t + 1)) v)) _ _ _
  refine wpAny_updatePart hd ?_
  obtain ⟨F3, N3⟩ := news_upd (f := Obj.putName name (PyData.keyHash w.params name) (.str name (t + 1)) v) (o' := dictOf es' n') (pre := []) F N
    (fun p hp => nomatch hp) (fun p hp => by rcases List.mem_cons.mp hp with rfl | hp; exact Ne.symm hxd; exact hnn p hp) e rfl
  refine wpAny_bind (wpAny_lookBehind (N3.get (.head _)) hz ?_)
  refine wpAny_pure ?_
  exact hq _ F3 N3
end
end Mine
/-! Exc2 -/
namespace Mine
theorem start_Exc2 : True := by
  w_top off
  trivial
abbrev beDict (w : World) (c : Str) (tc : Tok) (v : Value) (t1 t2 : Tok) : Obj := dictOf [⟨PyData.keyHash w.params "code", .str "code" t1, .str c tc⟩, ⟨PyData.keyHash w.params "told", .str "told" t2, v⟩] 2
abbrev beObj (d t : Addr) : Obj := { cls := .ref 34, dict := some d, data := .fields #[.ref t, .none, .none, .none, .bool false, .none] }
theorem mkBE (w : World) (c : Str) (tc : Tok) (v : Value) (mean : ExcName → Option Value) (mg mb : Str → Option Value) (dp un : Nat) (gd : Option (List Code)) (cn : Str) (cs : Scope) (a : Addr) (ccd : Value) (cl : List (Str × Addr)) (outer : List Env) (A₀ : Around) (base h₀ : Heap) (L : Addr) (m : Str → Option Value) (news : List (Addr × Obj)) (s : Shared) (Q E : Value → Shared → Prop)
    (hB : Below A₀ base outer h₀) (hF : Fr h₀ L s.heap m) (hX : (_root_.MineH.hd.heap_1 w.params).In h₀) (hN : News h₀ L s.heap news) (hT : Top _root_.MineH.hd.view_39 (looseW _root_.MineH.hd.view_39 [Str.ofString "BasicError", Str.ofString "PAIRS"]) mean mg mb h₀) (hk : cs.kind = .function)
    (hd : dp + 20 < recursionLimit) (hu : un + 200 < cLine)
    (hQ : ∀ (x d t : Addr) (h' : Heap) (tk' : Nat) (t1 t2 : Tok), Fr h₀ L h' m → News h₀ L h' ((d, beDict w c tc v t1 t2) :: (x, beObj d t) :: news) → d ≠ x → (∀ p ∈ news, p.1 ≠ x) → Q (.ref x) { s with heap := h', toks := tk' }) :
    wpAny (model PySem.Challenge.rw_pq0143_01.prog w) (ktrTop dp un gd cn cs L a ccd cl outer) (call (.ref 34) [.str c tc, v]) Q E s := by
  revert hX; k_fill; intro hX
  have X := hX.keeps hF.keep
  obtain ⟨hp, g, d, t, os⟩ := s
  have hz34 : 34 < hp.objs.size := Heap.lt_size (X 34 _ (by k_is))
  have N1 := (hN.push hF (tupObj [.str c tc, v])).push (hF.push _) (excObj 34 hp.objs.size)
  have F1 := (hF.push (tupObj [.str c tc, v])).push (excObj 34 hp.objs.size)
  rw [Heap.size_push] at N1
  have X1 := hX.keeps F1.keep
  refine wpAny_call (make_exc (X 34 _ (by k_is)) (looks_findIn X (r := some (.ref 31)) (by k_is)) (looks_specialIn X (by kernel_rfl)) (fun self => bind_fn X self (by kernel_rfl)) (by size_fits) ?_)
  refine' ks_code_super ?k1 ?k2 ?k3 ?k4 ?k5 ?kA ?kF ?kK ?k6 ?k7 ?k8 ?k9 ?kB ?_ ?c1 ?c2 ?c3 ?c4
  (case kA => exact rfl); (case kF => exact rfl); (case kK => exact hk); (case k1 => k_asm); (case k2 => exact F1); (case k3 => k_asm); (case k4 => exact N1); (case k5 => k_asm); (case k6 => k_is); (case k7 => k_is); (case k8 => ktr_room); (case k9 => first | exact BindsTo.of_eq rfl | exact binds_K X1 rfl (by k_is) rfl rfl rfl); (case kB => exact locs rfl); (case c1 => decide); (case c2 => exact rfl); (case c3 => exact rfl); (case c4 => exact rfl)
  intro g' L' h' FG' F' N' B' X' T' l1; (try k_lt l1); (try dsimp only); (try k_lift B')
  dsimp only at N'
  generalize hsz : hp.objs.size = z at *
  refine ks_wpAt_execs_cons (ks_wpAt_Expr_any (ks_wpAt_MethodCall ?_))
  k_dflt (refine ks_node (by k_asm) (by k_asm) (by k_asm) (by k_asm) (by k_is) (by rfl) (by rfl) (odx := none) (x := z + 1) (ox := excObj 34 z) (C := 34) ?inst (by k_is) (by rfl) (by decide +kernel) (by k_is) (by k_is) (by k_is) (by k_is) (by decide) (by rfl) (by rfl) (by rfl) (by rfl) (by decide +kernel) (by boot_by_name) ?_)
  (case inst => exact ⟨N'.get (.head _), rfl, rfl, trivial⟩)
  intro so' h2' F2' N2' l2
  dsimp only
  have X2 := X'.keeps F2'.keep
  refine get_super_exc (l₀ := cd34.mro) (l := bm0) (N2'.get (.head _)) (looks_opaque X2 (by k_is)) (fun A Q E s k q => wpAny_bind ((looks_clsIn X2 (cd := cd34) (by k_is)) A _ E s k (wpAny_pure q))) rfl X2 (by kernel_rfl) ((Looks.ld (N2'.get (.tail _ (.head _)))).andThen .now) (looks_mroIn X2 (by k_is)) ?_ ?_
  · show z + 1 ≠ 34
    omega
  have F3 := F2'.push { cls := .type "method-wrapper", data := .fields #[.builtin "Exception.__init__", .ref (z + 1)] }
  have N3 := N2'.push F2' { cls := .type "method-wrapper", data := .fields #[.builtin "Exception.__init__", .ref (z + 1)] }
  generalize hmw : h2'.objs.size = mw at *
  dsimp only
  refine callWith_MW (x := z + 1) ?_
  k_steps
  · exact N3.get (.head _)
  have X3 := X'.keeps F3.keep
  refine wpAny_call (call_mw (N3.get (.head _)) (N3.get (.tail _ (.tail _ (.head _)))) (X3 34 _ (by k_is)) ?_)
  have hta : (h2'.push { cls := .type "method-wrapper", data := .fields #[.builtin "Exception.__init__", .ref (z + 1)] }).objs.size = mw + 1 := by rw [Heap.size_push, hmw]
  have F4 := F3.push (tupObj [.str c tc])
  have N4 := N3.push F3 (tupObj [.str c tc])
  rw [hta] at N4
  rw [hta]
  have hzt : z + 1 < so' := l2 _ (.head _)
  have hso : so' < mw := by rw [← hmw]; exact Heap.lt_size (N2'.get (.head _))
  have N5 : News g' L' _ ((z + 1, excObj 34 z) :: (mw + 1, tupObj [.str c tc]) :: news) := fun p hp => by
    simp only [List.mem_cons] at hp
    rcases hp with rfl | rfl | hp
    · exact N4 _ (by simp)
    · exact N4 _ (by simp)
    · exact N4 _ (by simp [hp])
  have hnz : ∀ p ∈ news, p.1 < z := fun p hp => by
    rw [← hsz]; exact Heap.lt_size (hN p hp).1
  obtain ⟨F5, N6⟩ := news_upd (f := Obj.mapFields (·.setIfInBounds 0 (.ref (mw + 1)))) (pre := []) F4 N5 (fun p hp => nomatch hp) (fun p hp => by
    rcases List.mem_cons.mp hp with rfl | hp
    · exact Nat.ne_of_gt (Nat.succ_lt_succ (Nat.lt_trans (Nat.lt_of_succ_lt hzt) hso))
    · exact Nat.ne_of_lt (Nat.lt_succ_of_lt (hnz p hp))) rfl rfl
  refine wpAt_of_wpAny ?_
  dsimp only [List.nil_append] at N6
  k_steps
  refine setattr_exc1 (K := _root_.MineH.hd.heap_1 w.params) F5 X' N6 ?_ (by k_is) (by k_is) (by k_is) (by k_is) ?_
  · intro p hp
    rcases List.mem_cons.mp hp with rfl | hp
    · exact Nat.ne_of_gt (Nat.succ_lt_succ (Nat.lt_trans (Nat.lt_of_succ_lt hzt) hso))
    · exact Nat.ne_of_lt (Nat.lt_succ_of_lt (hnz p hp))
  intro h7 dx F7 N7 hdx hdn
  dsimp only
  k_steps
  refine setattr_exc2 (K := _root_.MineH.hd.heap_1 w.params) F7 X' N7 hdx hdn (by k_is) (by k_is) (by k_is) (by k_is) (by rfl) (by rfl) (by rfl) ?_
  intro h8 F8 N8
  dsimp only
  k_steps
  rename_i kF kN _ _
  exact hQ (z + 1) dx (mw + 1) h8 _ _ _ kF (fun p hp => kN p (by
    simp only [List.mem_cons] at hp ⊢
    rcases hp with rfl | rfl | hp
    · exact .inl rfl
    · exact .inr (.inl rfl)
    · exact .inr (.inr (.inr hp)))) hdx (fun p hp => Nat.ne_of_lt (Nat.lt_succ_of_lt (hnz p hp)))
end Mine
/-! Fw -/
namespace Mine
theorem start_Fw : True := by
  w_top off
  trivial
abbrev ctx (dp un : Nat) (gd : Option (List Code)) (l : List Env) : Around := { handled := none, depth := dp, frames := some l, guards := gd, units := un }
section
variable {M : Model} {A : Around} {E : Value → Shared → Prop} {s : Shared}
/-- the exception at e, its dict at d, its fields vs -/
def ExAt (h : Heap) (e d : Addr) (vs : Array Value) : Prop := ∃ sl, h.get? e = some { cls := .ref 34, dict := some d, data := .fields vs, slots := sl }
/-- it bears a traceback made since B, whose mark is fl -/
def Mark (h B : Heap) (e d : Addr) (fl : Value) : Prop :=
  ∃ vs T oT ts, ExAt h e d vs ∧ vs[1]? = some (.ref T) ∧ B.get? T = none ∧ T ≠ e ∧ h.get? T = some oT ∧ oT.data = .fields ts ∧ ts[3]? = some fl

theorem note_entry {B : Heap} {env : Env} {outer : List Env} {L e d : Addr} {vs : Array Value} {head : Value} {hadNext : Bool} {Q : Unit → Shared → Prop}
    (hfr : A.frames = some (env :: outer)) (hl : s.heap.FunFrames B (env :: outer)) (hf : env.frame = some L)
    (he : ExAt s.heap e d vs) (hk : B.StaysIn s.heap) (hen : B.get? e = none) (hsz : 1 < vs.size)
    (h : ∀ h', B.StaysIn h' → h'.FunFrames B (env :: outer) → Mark h' B e d (rawInt L) → s.heap.UpToSlots h' → Q () { s with heap := h' }) :
    wpAny M A (do setField (.ref e) 1 (← EntryCells.newEntry head (← frameOf env) .none (rawInt L) .none (← entryPlaceOf L hadNext))) Q E s := by
  obtain ⟨sl, he⟩ := he
  have notFrame : e ∉ (env :: outer).filterMap (·.frame) := fun hm => by
    obtain ⟨_, o, ho, hnf⟩ := hl.mem hm
    rw [he] at ho; cases ho; exact hnf vs rfl
  refine wpAny_bind (wpAny_frameOf_fun hfr hl hf fun h₁ hs₁ => ?_)
  refine wpAny_bind (wpAny_entryPlaceOf fun pl hpl => ?_)
  unfold EntryCells.newEntry newFields
  refine wpAny_bind (wpAny_newObj_type ?_ (hpl.sizeOk5 _ _ _ _ _))
  have he₁ : h₁.get? e = some _ := (hs₁.2.1 e notFrame).trans he
  have hk₁ : B.StaysIn h₁ := fun b o hb => (hs₁.2.1 b fun hm => by rw [(hl.mem hm).1] at hb; cases hb).trans (hk b o hb)
  generalize hcells : ([head, Value.ref L, Value.none, rawInt L, Value.none] ++ (if pl.isEmpty then List.replicate 6 Value.none else pl)).toArray = ts
  have ht3 : ts[3]? = some (rawInt L) := by rw [← hcells]; simp
  have he₂ := Heap.get?_push_of_some (h := h₁) { cls := .type "traceback", dict := none, data := .fields ts } he₁
  have hT : h₁.objs.size ≠ e := Nat.ne_of_gt (Heap.lt_size he₁)
  refine wpAny_setField he₂ rfl hsz ?_
  have keep : ∀ b o, b ≠ e → h₁.get? b = some o → ((h₁.push { cls := .type "traceback", data := .fields ts }).update e (Obj.mapFields (·.setIfInBounds 1 (.ref h₁.objs.size)))).get? b = some o :=
    fun b o hbe hb => (Heap.get?_update_other _ _ (Ne.symm hbe)).trans (Heap.get?_push_of_some _ hb)
  have noRec : ∀ b o, s.heap.get? b = some o → (∀ vs, o.data ≠ .fields vs) → b ≠ e := fun b o hb hnf q => by
    rw [q, he] at hb; cases hb; exact hnf vs rfl
  refine h _ (fun b o hb => keep b o (fun q => by rw [q, hen] at hb; cases hb) (hk₁ b o hb)) (hl.of_keeps fun b o hb hnf => ?_) ?_ (fun b o hb hnf => ?_)
  · obtain ⟨sl', hs⟩ := hs₁.2.2 b o hb
    exact ⟨_, keep b _ (noRec b o hb hnf) hs, rfl⟩
  · refine ⟨_, h₁.objs.size, _, ts, ⟨sl, Heap.get?_update_self _ he₂ rfl⟩, by simp [hsz], hk₁.fresh, hT, (Heap.get?_update_other _ _ (Ne.symm hT)).trans (Heap.get?_push_size _ rfl), rfl, ht3⟩
  · obtain ⟨sl', hs⟩ := hs₁.2.2 b o hb
    exact ⟨sl', keep b _ (noRec b o hb hnf) hs⟩

theorem flight_none {B : Heap} {l : List Env} {e d : Addr} {fl : Value} {Q : Unit → Shared → Prop} (hk : B.StaysIn s.heap) (hl : s.heap.FunFrames B l) (ht : Mark s.heap B e d fl)
    (h : ∀ h', B.StaysIn h' → h'.FunFrames B l → Mark h' B e d .none → s.heap.UpToSlots h' → Q () { s with heap := h' }) : wpAny M A (setFlight (.ref e) none) Q E s := by
  obtain ⟨vs, T, oT, ts, ⟨sl, he⟩, h1, hnT, hTe, hT, hdT, h3⟩ := ht
  have hsz : 3 < ts.size := (Array.getElem?_eq_some_iff.mp h3).1
  have other : ∀ b, b ≠ T → (s.heap.update T (Obj.mapFields (·.setIfInBounds 3 Value.none))).get? b = s.heap.get? b := fun b hb => Heap.get?_update_other _ _ (Ne.symm hb)
  have noRec : ∀ b o, s.heap.get? b = some o → (∀ vs, o.data ≠ .fields vs) → b ≠ T := fun b o hb hnf q => by
    rw [q, hT] at hb; cases hb; exact hnf ts hdT
  unfold setFlight
  refine wpAny_bind (wpAny_field he rfl h1 ?_)
  rw [if_pos (show (Value.ref T != Value.none) = true from by simp)]
  refine wpAny_setField hT hdT hsz (h _ (fun b o hb => (other b fun q => by rw [q, hnT] at hb; cases hb).trans (hk b o hb)) (hl.of_keeps fun b o hb hnf => ⟨o, (other b (noRec b o hb hnf)).trans hb, rfl⟩) ?_
    fun b o hb hnf => ⟨o.slots, (other b (noRec b o hb hnf)).trans hb⟩)
  exact ⟨vs, T, _, _, ⟨sl, (other e (Ne.symm hTe)).trans he⟩, h1, hnT, hTe, Heap.get?_update_self _ hT (Obj.isFreed_of_fields (Obj.data_mapFields hdT _)), Obj.data_mapFields hdT _, by simp [hsz]⟩

theorem note_first {B : Heap} {env : Env} {outer : List Env} {L e d : Addr} {vs : Array Value} {Q : Unit → Shared → Prop}
    (hfr : A.frames = some (env :: outer)) (hl : s.heap.FunFrames B (env :: outer)) (hf : env.frame = some L) (he : ExAt s.heap e d vs) (h1 : vs[1]? = some .none) (hk : B.StaysIn s.heap) (hen : B.get? e = none)
    (h : ∀ h', B.StaysIn h' → h'.FunFrames B (env :: outer) → Mark h' B e d (rawInt L) → s.heap.UpToSlots h' → Q () { s with heap := h' }) : wpAny M A (noteFrame (.ref e) env) Q E s := by
  have he' := he
  obtain ⟨sl, he⟩ := he
  unfold noteFrame
  simp only [hf]
  refine wpAny_bind (wpAny_field he rfl h1 ?_)
  rw [if_neg (by decide)]
  exact note_entry hfr hl hf he' hk hen (Array.getElem?_eq_some_iff.mp h1).1 h

theorem note_next {B : Heap} {env : Env} {outer : List Env} {L e d : Addr} {Q : Unit → Shared → Prop}
    (hfr : A.frames = some (env :: outer)) (hl : s.heap.FunFrames B (env :: outer)) (hf : env.frame = some L) (ht : Mark s.heap B e d .none) (hk : B.StaysIn s.heap) (hen : B.get? e = none)
    (h : ∀ h', B.StaysIn h' → h'.FunFrames B (env :: outer) → Mark h' B e d (rawInt L) → s.heap.UpToSlots h' → Q () { s with heap := h' }) : wpAny M A (noteFrame (.ref e) env) Q E s := by
  obtain ⟨vs, T, oT, ts, ⟨sl, he⟩, h1, hnT, hTe, hT, hdT, h3⟩ := ht
  unfold noteFrame
  simp only [hf]
  refine wpAny_bind (wpAny_field he rfl h1 ?_)
  rw [if_pos (show (Value.ref T != Value.none) = true from by simp)]
  refine wpAny_bind (wpAny_field hT hdT h3 ?_)
  rw [if_neg (show ¬ ((Value.none == rawInt L) = true) from by simp [rawInt])]
  refine wpAny_bind (wpAny_setField hT hdT (Array.getElem?_eq_some_iff.mp h3).1 ?_)
  have other : ∀ b, b ≠ T → (s.heap.update T (Obj.mapFields (·.setIfInBounds 3 Value.none))).get? b = s.heap.get? b := fun b hb => Heap.get?_update_other _ _ (Ne.symm hb)
  have noRec : ∀ b o, s.heap.get? b = some o → (∀ vs, o.data ≠ .fields vs) → b ≠ T := fun b o hb hnf q => by
    rw [q, hT] at hb; cases hb; exact hnf ts hdT
  refine note_entry hfr (hl.of_keeps fun b o hb hnf => ⟨o, (other b (noRec b o hb hnf)).trans hb, rfl⟩) hf ⟨sl, (other e (Ne.symm hTe)).trans he⟩ (fun b o hb => (other b fun q => by rw [q, hnT] at hb; cases hb).trans (hk b o hb)) hen
    (Array.getElem?_eq_some_iff.mp h1).1 fun h' x1 x2 x3 x4 => h h' x1 x2 x3 fun b o hb hnf => x4 b o ((other b (noRec b o hb hnf)).trans hb) hnf
end

/-- the exception flies over the frames l: made since G with the code c and the told value v -/
def Fly (w : World) (base G : Heap) (l : List Env) (e : Addr) (c : Str) (v : Value) (h : Heap) : Prop :=
  ∃ (B : Heap) (d : Addr) (tc t1 t2 : Tok), base.StaysIn B ∧ (∀ b o, G.get? b = some o → b ∉ l.filterMap (·.frame) → B.get? b = some o) ∧ B.get? d = some (beDict w c tc v t1 t2) ∧ G.get? d = none ∧
    B.StaysIn h ∧ B.get? e = none ∧ h.FunFrames B l ∧ Mark h B e d .none

section
variable {M : Model} {w : World} {A : Around} {E : Value → Shared → Prop} {s' : Shared} {base g g₂ : Heap} {outer : List Env} {L a e d t : Addr} {m : Str → Option Value} {name : Str} {scope : Scope} {cd : Value} {Q : Unit → Shared → Prop} {news : List (Addr × Obj)} {c : Str} {v : Value}
theorem leave_made {tc t1 t2 : Tok} (K : Below A base outer g) (F : Fr g L s'.heap m) (N : News g L s'.heap ((d, beDict w c tc v t1 t2) :: (e, beObj d t) :: news)) (hde : d ≠ e)
    (hQ : ∀ h', Fly w base g outer e c v h' → g.UpToSlots h' → Q () { s' with heap := h' }) (hk : scope.kind = .function := by rfl) :
    wpAny M (A.deeper (envOf name scope L a cd)) (leaving (envOf name scope L a cd) (.ref e)) Q E s' := by
  have K' := K.push (name := name) (a := a) (cd := cd) F hk
  let fs := e :: (envOf name scope L a cd :: outer).filterMap (·.frame)
  have hE := N (e, beObj d t) (by simp)
  have hD := N (d, beDict w c tc v t1 t2) (by simp)
  have st : base.StaysIn (hideAll s'.heap fs) := fun b o q => hideAll_get _ (K'.stays b o q) fun hm => by
    rcases List.mem_cons.mp hm with rfl | hm
    · have := fresh_of_stays K.stays hE.2.2; rw [q] at this; cases this
    · rw [(K'.frames.mem hm).1] at q; cases q
  have sg : ∀ b o, g.get? b = some o → b ∉ outer.filterMap (·.frame) → (hideAll s'.heap fs).get? b = some o := fun b o q nm => hideAll_get _ (F.keep b o q) fun hm => by
    rcases List.mem_cons.mp hm with rfl | hm
    · have := hE.2.2; rw [q] at this; cases this
    · rcases kts_mem hm with z | z
      · rw [z, kts_self F] at q; cases q
      · exact nm z
  have inB : (hideAll s'.heap fs).get? d = some (beDict w c tc v t1 t2) := by
    refine hideAll_get _ hD.1 fun hm => ?_
    rcases List.mem_cons.mp hm with hm | hm
    · exact hde hm
    · obtain ⟨env, he, hf⟩ := List.mem_filterMap.mp hm
      rcases List.mem_cons.mp he with rfl | he
      · exact hD.2.1 (Option.some.inj hf).symm
      · obtain ⟨o, ho, _⟩ := (K.frames.mem (List.mem_filterMap.mpr ⟨env, he, hf⟩)).2
        have := hD.2.2; rw [ho] at this; cases this
  have hB : (hideAll s'.heap fs).get? e = none := hideAll_none _ (.head _)
  have ff : s'.heap.FunFrames (hideAll s'.heap fs) (envOf name scope L a cd :: outer) :=
    funFrames_hide K'.frames fun env he b hb => .tail _ (List.mem_filterMap.mpr ⟨env, he, hb⟩)
  unfold leaving
  refine wpAny_bind (note_first (B := hideAll s'.heap fs) K'.stack ff rfl ⟨_, hE.1⟩ rfl (fun b o q => of_hideAll _ q) hB fun h' x1 x2 x3 x4 => ?_)
  refine flight_none x1 x2 x3 fun h'' y1 y2 y3 y4 => ?_
  exact hQ h'' ⟨_, d, tc, t1, t2, st, sg, inB, hD.2.2, y1, hB, y2.2.2, y3⟩ (((Heap.UpToSlots.of_keeps F.keep).trans x4).trans y4)

theorem leave_fly (K : Below A base outer g) (F : Fr g L g₂ m) (R : Fly w base g₂ (envOf name scope L a cd :: outer) e c v s'.heap) (hsm : g₂.UpToSlots s'.heap)
    (hQ : ∀ h', Fly w base g outer e c v h' → g.UpToSlots h' → Q () { s' with heap := h' }) :
    wpAny M (A.deeper (envOf name scope L a cd)) (leaving (envOf name scope L a cd) (.ref e)) Q E s' := by
  obtain ⟨B, d, tc, t1, t2, r1, r0, r2, r2', r3, r4, r5, r6⟩ := R
  unfold leaving
  refine wpAny_bind (note_next (Around.frames_deeper K.stack) r5 rfl r6 r3 r4 fun h' x1 x2 x3 x4 => ?_)
  refine flight_none x1 x2 x3 fun h'' y1 y2 y3 y4 => ?_
  exact hQ h'' ⟨B, d, tc, t1, t2, r1, fun b o q nm => r0 b o (F.keep b o q) (fun hm => by
    rcases kts_mem hm with z | z
    · rw [z, kts_self F] at q; cases q
    · exact nm z), r2, kts_none F.keep r2', y1, r4, y2.2.2, y3⟩ ((((Heap.UpToSlots.of_keeps F.keep).trans hsm).trans x4).trans y4)
end

/-- what a call of the function at f, on the values vs, gives: it returns (R: of the heap before, the heap behind, the value), all that stood stands; or it raises BasicError (X: of its code and what it tells) -/
def Tell (w : World) (k : Nat) (f : Addr) (vs : List Value) (P : Heap → Prop) (R : Heap → Heap → Value → Prop) (X : Str → Value → Prop) : Prop :=
  ∀ (mean : ExcName → Option Value) (mg mb : Str → Option Value) (dp un : Nat) (gd : Option (List Code)) (l : List Env) (base g : Heap) (gs : Array GenState) (dr : Drawn) (tk : Nat) (os : OsState) (Q E : Value → Shared → Prop),
    Below (ctx dp un gd l) base l g → (_root_.MineH.hd.heap_1 w.params).In base → Top _root_.MineH.hd.view_39 (looseW _root_.MineH.hd.view_39 [Str.ofString "BasicError", Str.ofString "PAIRS"]) mean mg mb base → dp + k < recursionLimit → un + 10 * k < cLine → P g →
    (∀ v h' tk', g.StaysIn h' → R g h' v → Q v ⟨h', gs, dr, tk', os⟩) →
    (∀ e h' tk' c v, X c v → Fly w base g l e c v h' → g.UpToSlots h' → E (.ref e) ⟨h', gs, dr, tk', os⟩) →
    wpAny (model PySem.Challenge.rw_pq0143_01.prog w) (ctx dp un gd l) (call (.ref f) vs) Q E ⟨g, gs, dr, tk, os⟩

theorem Tell.use {w : World} {k : Nat} {f : Addr} {vs : List Value} {P : Heap → Prop} {R : Heap → Heap → Value → Prop} {X : Str → Value → Prop} {mean : ExcName → Option Value} {mg mb : Str → Option Value} {dp un : Nat} {gd : Option (List Code)} {cn : Str} {cs : Scope} {L a : Addr} {ccd : Value} {cl : List (Str × Addr)}
    {A₀ : Around} {outer : List Env} {base g : Heap} {m : Str → Option Value} {news : List (Addr × Obj)} {s : Shared} {Q E : Value → Shared → Prop}
    (C : Tell w k f vs P R X) (B : Below A₀ base outer g) (F : Fr g L s.heap m) (N : News g L s.heap news) (XB : (_root_.MineH.hd.heap_1 w.params).In base) (TB : Top _root_.MineH.hd.view_39 (looseW _root_.MineH.hd.view_39 [Str.ofString "BasicError", Str.ofString "PAIRS"]) mean mg mb base) (hk : cs.kind = .function)
    (hd : dp + k < recursionLimit) (hu : un + 10 * k < cLine) (hp : P s.heap)
    (ret : ∀ v h' tk', s.heap.StaysIn h' → Fr g L h' m → News g L h' news → R s.heap h' v → Q v { s with heap := h', toks := tk' })
    (rai : ∀ e h' tk' c v, X c v → Fly w base s.heap (envX cn cs L a ccd cl :: outer) e c v h' → s.heap.UpToSlots h' → E (.ref e) { s with heap := h', toks := tk' }) :
    wpAny (model PySem.Challenge.rw_pq0143_01.prog w) (ctx dp un gd (envX cn cs L a ccd cl :: outer)) (call (.ref f) vs) Q E s := by
  obtain ⟨h, gs, dr, tk, os⟩ := s
  have B' := pushX (env := envX cn cs L a ccd cl) B F rfl hk
  refine C mean mg mb dp un gd _ base h gs dr tk os Q E ⟨rfl, B'.stays, B'.frames⟩ XB TB hd hu hp (fun v h' tk' st r => ret v h' tk' st ?_ ?_ r) rai
  · obtain ⟨oL, es, ep, hL, q⟩ := F.ns
    exact ⟨⟨oL, es, ep, st _ _ hL, q⟩, fun b o e => st _ _ (F.keep b o e), F.above⟩
  · exact fun p hp => ⟨st _ _ (N p hp).1, (N p hp).2⟩

def LeaveP (R : Result → Shared → Prop) (v : Value) (s' : Shared) : Prop := R (.ok (.ret v)) s'

theorem enterP {w : World} {R : Result → Shared → Prop} {name qual : Str} {params : Arguments} {body : List Stmt} {scope : Scope} {dV kV doc pm cdv ct oc : Value} {an od : Option Addr} {osl : Array (Option Value)} {f : Addr} {args : Args} {binds l0 : List (Str × Value)}
    {mean : ExcName → Option Value} {mg mb : Str → Option Value} {dp un : Nat} {gd : Option (List Code)} {l : List Env} {base g : Heap} {gs : Array GenState} {dr : Drawn} {tk : Nat} {os : OsState}
    (B : Below (ctx dp un gd l) base l g) (X : (_root_.MineH.hd.heap_1 w.params).In base) (T : Top _root_.MineH.hd.view_39 (looseW _root_.MineH.hd.view_39 [Str.ofString "BasicError", Str.ofString "PAIRS"]) mean mg mb base)
    (ho : (_root_.MineH.hd.heap_1 w.params).lookup f = some ⟨oc, od, .func (fnOf name qual params body scope dV kV doc pm an cdv ct), osl⟩) (hcd : codeIn (_root_.MineH.hd.heap_1 w.params) cdv qual = true) (hroom : dp < recursionLimit)
    (hbind : BindsTo ⟨g, gs, dr, tk, os⟩ (fnOf name qual params body scope dV kV doc pm an cdv ct) args binds) (hl : binds.reverse = l0) (hloc : ∀ y ∈ binds, scope.names.lookup y.1 = some .local)
    (h : ∀ L' h₁ tk', Fr g L' h₁ (fun y => l0.lookup y) → News g L' h₁ [] → (_root_.MineH.hd.heap_1 w.params).In g → Top _root_.MineH.hd.view_39 (looseW _root_.MineH.hd.view_39 [Str.ofString "BasicError", Str.ofString "PAIRS"]) mean mg mb g →
      wpAny (model PySem.Challenge.rw_pq0143_01.prog w) ((ctx dp un gd l).deeper (envOf qual scope L' f cdv)) (execs body (envOf qual scope L' f cdv))
        (fun fl s' => LeaveP R (match fl with | .ret v => v | _ => .none) s')
        (fun e s' => wpAny (model PySem.Challenge.rw_pq0143_01.prog w) ((ctx dp un gd l).deeper (envOf qual scope L' f cdv)) (leaving (envOf qual scope L' f cdv) e) (fun _ s'' => R (.error e) s'') (fun e' s'' => R (.error e') s'') s')
        ⟨h₁, gs, dr, tk', os⟩)
    (hco : scope.isCoroutine = false) (hgen : scope.isGenerator = false) (hk : scope.kind = .function)
    (hcell : ∀ x ∈ scope.names, x.2 ≠ .cell) : codeAny (model PySem.Challenge.rw_pq0143_01.prog w) (ctx dp un gd l) (.call (.ref f) args) R ⟨g, gs, dr, tk, os⟩ := by
  subst hl
  have XG := X.keeps B.stays
  have TG := T.keeps B.stays
  refine codeAny_call_def (fd := fnOf name qual params body scope dV kV doc pm an cdv ct) (body := body) (binds := binds) hroom (XG _ _ ho) rfl TG.nolimit (codeRec_of XG hcd) rfl hbind hcell hloc (fun h₁ hns hk₁ => ?_) hco hgen hk
  exact h _ h₁ _ ⟨hns, hk₁, Nat.le_refl _⟩ News.nil XG TG
def TEnd (P : Prop) : Prop := P
section
variable {prog : Program} {w : World} {A : Around} {E : Value → Shared → Prop} {env : Env} {test : PySem.Expr} {body orelse : List Stmt} {Q : Flow → Shared → Prop}
theorem while_rule {ι : Type} {pos : Pos} (J : ι → Shared → Prop) (size : ι → Nat) (hE : PassesOwn (model prog w) A env E)
    (turn : ∀ i s, J i s → wpAny (model prog w) A (isTrue test env (eval test env)) (fun b s₂ => WhlIf b (wpAny (model prog w) A (execs body env) (fun f s' => match f with | .next => TEnd (∃ i', size i' < size i ∧ J i' s') | .cont => TEnd (∃ i', size i' < size i ∧ J i' s') | .brk => Q .next s' | .ret v => Q (.ret v) s') E s₂) (wpAny (model prog w) A (execs orelse env) Q E s₂)) E s)
    (i : ι) (s : Shared) (h : J i s) : wpAny (model prog w) A (exec (.While test body orelse pos) env) Q E s := by
  have all : ∀ n, ∀ i s, size i < n → J i s → WhlRest prog w A E env test body orelse Q n s := by
    intro n
    induction n with
    | zero => intro i s h; exact absurd h (Nat.not_lt_zero _)
    | succ n ih =>
      intro i s hi hj
      refine whl_turn hE (wpAny_mono (turn i s hj) (fun b s₂ hb => ?_) fun _ _ x => x)
      cases b with
      | false => exact hb
      | true =>
        refine wpAny_mono (M := model prog w) (A := A) (show wpAny _ _ _ _ _ _ from hb) (fun f s' hf => ?_) fun _ _ x => x
        cases f with
        | next => obtain ⟨i', hi', hj'⟩ := hf; exact ih i' s' (by omega) hj'
        | cont => obtain ⟨i', hi', hj'⟩ := hf; exact ih i' s' (by omega) hj'
        | brk => exact hf
        | ret v => exact hf
  exact whl_start _ (all _ i s (Nat.lt_succ_self _) h)
end
def WHold (P : Prop) : Prop := P
theorem holdW {P : Prop} (h : WHold P) : P := h
def putA (x : Str) (v : Value) : List (Str × Value) → List (Str × Value)
  | [] => [(x, v)]
  | p :: r => if p.1 = x then (x, v) :: r else p :: putA x v r
theorem loc_set (x : Str) (v : Value) : ∀ l : List (Str × Value), (fun y => if y = x then some v else List.lookup y l) = fun y => List.lookup y (putA x v l)
  | [] => by
    funext y
    by_cases h2 : y = x
    · subst h2; simp [putA, List.lookup]
    · have h3 : (y == x) = false := by simp [h2]
      rw [if_neg h2]; simp only [putA, List.lookup, h3]
  | p :: r => by
    have ih := loc_set x v r
    funext y
    have ihy := congrFun ih y
    simp only [putA]
    by_cases h1 : p.1 = x
    · rw [if_pos h1]
      by_cases h2 : y = x
      · subst h2; simp [List.lookup]
      · have h3 : (y == x) = false := by simp [h2]
        have h4 : (y == p.1) = false := by rw [h1]; exact h3
        rw [if_neg h2]; simp only [List.lookup, h3, h4]
    · rw [if_neg h1]
      by_cases h2 : y = x
      · subst h2
        have h3 : (y == p.1) = false := by simp [Ne.symm h1]
        rw [if_pos rfl] at ihy ⊢
        simp only [List.lookup, h3]; exact ihy
      · rw [if_neg h2] at ihy ⊢
        simp only [List.lookup]
        split
        · rfl
        · exact ihy
theorem Fr_eq {g h : Heap} {L : Addr} {m m' : Str → Option Value} (F : Fr g L h m) (e : m = m') : Fr g L h m' := e ▸ F
def RHold (P : Prop) : Prop := P
theorem holdR {P : Prop} (h : RHold P) : P := h
/-- a call that is held, for a contract -/
@[irreducible] def CHold (P : Prop) : Prop := P
theorem ofC {P : Prop} (h : CHold P) : P := by unfold CHold at h; exact h
theorem mkC {P : Prop} (h : P) : CHold P := by unfold CHold; exact h
theorem roomD {d k R a : Nat} (h : d + a < R) (hk : 1 + k ≤ a) : d + 1 + k < R := by omega
theorem ne_gt {a b : Nat} (h : b < a) : a ≠ b := Nat.ne_of_gt h
theorem ne_lt {a b : Nat} (h : a < b) : a ≠ b := Nat.ne_of_lt h
theorem room2 {d k R a : Nat} (h : d + a < R) (hk : 1 + k ≤ a) : d + 1 + k < R := by omega
theorem sub_succ {i n : Nat} (h : i < n) : ∃ k, n - i = k + 1 ∧ n - (i + 1) = k := ⟨n - (i + 1), by omega, rfl⟩
theorem roomZ {d a R : Nat} (h : d + a < R) : d < R := Nat.lt_of_le_of_lt (Nat.le_add_right d a) h
theorem roomC {u j c a : Nat} (h : u + 10 * a < c) (hj : 3 + j ≤ 10 * a) : u + 3 + j < c := by omega
theorem roomU {u k c a : Nat} (h : u + 10 * a < c) (hk : k ≤ a) : u + 10 * k < c := by omega
section
variable {M : Model} {A : Around} {vs : List Value} {Q E : Value → Shared → Prop} {s : Shared}
theorem hold34 (h : CHold (wpAny M A (call (.ref 34) vs) Q E s)) : wpAny M A (call (.ref 34) vs) Q E s := ofC h
theorem hold53 (h : CHold (wpAny M A (call (.ref 53) vs) Q E s)) : wpAny M A (call (.ref 53) vs) Q E s := ofC h
theorem hold60 (h : CHold (wpAny M A (call (.ref 60) vs) Q E s)) : wpAny M A (call (.ref 60) vs) Q E s := ofC h
theorem hold67 (h : CHold (wpAny M A (call (.ref 67) vs) Q E s)) : wpAny M A (call (.ref 67) vs) Q E s := ofC h
theorem hold72 (h : CHold (wpAny M A (call (.ref 72) vs) Q E s)) : wpAny M A (call (.ref 72) vs) Q E s := ofC h
theorem hold79 (h : CHold (wpAny M A (call (.ref 79) vs) Q E s)) : wpAny M A (call (.ref 79) vs) Q E s := ofC h
theorem hold86 (h : CHold (wpAny M A (call (.ref 86) vs) Q E s)) : wpAny M A (call (.ref 86) vs) Q E s := ofC h
theorem hold93 (h : CHold (wpAny M A (call (.ref 93) vs) Q E s)) : wpAny M A (call (.ref 93) vs) Q E s := ofC h
theorem hold100 (h : CHold (wpAny M A (call (.ref 100) vs) Q E s)) : wpAny M A (call (.ref 100) vs) Q E s := ofC h
theorem hold107 (h : CHold (wpAny M A (call (.ref 107) vs) Q E s)) : wpAny M A (call (.ref 107) vs) Q E s := ofC h
theorem hold114 (h : CHold (wpAny M A (call (.ref 114) vs) Q E s)) : wpAny M A (call (.ref 114) vs) Q E s := ofC h
theorem hold121 (h : CHold (wpAny M A (call (.ref 121) vs) Q E s)) : wpAny M A (call (.ref 121) vs) Q E s := ofC h
theorem hold142 (h : CHold (wpAny M A (call (.ref 142) vs) Q E s)) : wpAny M A (call (.ref 142) vs) Q E s := ofC h
theorem hold149 (h : CHold (wpAny M A (call (.ref 149) vs) Q E s)) : wpAny M A (call (.ref 149) vs) Q E s := ofC h
theorem hold156 (h : CHold (wpAny M A (call (.ref 156) vs) Q E s)) : wpAny M A (call (.ref 156) vs) Q E s := ofC h
theorem hold163 (h : CHold (wpAny M A (call (.ref 163) vs) Q E s)) : wpAny M A (call (.ref 163) vs) Q E s := ofC h
theorem hold170 (h : CHold (wpAny M A (call (.ref 170) vs) Q E s)) : wpAny M A (call (.ref 170) vs) Q E s := ofC h
theorem hold177 (h : CHold (wpAny M A (call (.ref 177) vs) Q E s)) : wpAny M A (call (.ref 177) vs) Q E s := ofC h
theorem hold184 (h : CHold (wpAny M A (call (.ref 184) vs) Q E s)) : wpAny M A (call (.ref 184) vs) Q E s := ofC h
theorem hold193 (h : CHold (wpAny M A (call (.ref 193) vs) Q E s)) : wpAny M A (call (.ref 193) vs) Q E s := ofC h
theorem hold200 (h : CHold (wpAny M A (call (.ref 200) vs) Q E s)) : wpAny M A (call (.ref 200) vs) Q E s := ofC h
theorem hold207 (h : CHold (wpAny M A (call (.ref 207) vs) Q E s)) : wpAny M A (call (.ref 207) vs) Q E s := ofC h
theorem hold228 (h : CHold (wpAny M A (call (.ref 228) vs) Q E s)) : wpAny M A (call (.ref 228) vs) Q E s := ofC h
theorem hold235 (h : CHold (wpAny M A (call (.ref 235) vs) Q E s)) : wpAny M A (call (.ref 235) vs) Q E s := ofC h
theorem hold242 (h : CHold (wpAny M A (call (.ref 242) vs) Q E s)) : wpAny M A (call (.ref 242) vs) Q E s := ofC h
theorem hold249 (h : CHold (wpAny M A (call (.ref 249) vs) Q E s)) : wpAny M A (call (.ref 249) vs) Q E s := ofC h
theorem hold263 (h : CHold (wpAny M A (call (.ref 263) vs) Q E s)) : wpAny M A (call (.ref 263) vs) Q E s := ofC h
theorem hold270 (h : CHold (wpAny M A (call (.ref 270) vs) Q E s)) : wpAny M A (call (.ref 270) vs) Q E s := ofC h
theorem hold277 (h : CHold (wpAny M A (call (.ref 277) vs) Q E s)) : wpAny M A (call (.ref 277) vs) Q E s := ofC h
end
section
variable {w : World} {k : Nat} {f : Addr} {vs : List Value} {P : Heap → Prop} {mean : ExcName → Option Value} {mg mb : Str → Option Value} {dp un : Nat} {gd : Option (List Code)} {cn : Str} {cs : Scope} {L a : Addr} {ccd : Value} {cl : List (Str × Addr)}
  {A₀ : Around} {outer : List Env} {base g h : Heap} {m : Str → Option Value} {news : List (Addr × Obj)} {gs : Array GenState} {dr : Drawn} {tk : Nat} {os : OsState} {Q E : Value → Shared → Prop}
/-- a contract whose value is said outright, and that raises nothing -/
theorem Tell.useE {X : Value} (C : Tell w k f vs P (fun _ _ v => v = X) (fun _ _ => False)) (B : Below A₀ base outer g) (F : Fr g L h m) (N : News g L h news) (XB : (_root_.MineH.hd.heap_1 w.params).In base) (TB : Top _root_.MineH.hd.view_39 (looseW _root_.MineH.hd.view_39 [Str.ofString "BasicError", Str.ofString "PAIRS"]) mean mg mb base) (hk : cs.kind = .function)
    (hd : dp + k < recursionLimit) (hu : un + 10 * k < cLine) (hp : P h) (ret : ∀ h' tk', Fr g L h' m → News g L h' news → Q X ⟨h', gs, dr, tk', os⟩) :
    CHold (wpAny (model PySem.Challenge.rw_pq0143_01.prog w) (ctx dp un gd (envX cn cs L a ccd cl :: outer)) (call (.ref f) vs) Q E ⟨h, gs, dr, tk, os⟩) :=
  mkC <| Tell.use C B F N XB TB hk hd hu hp (fun v h' tk' _ F' N' r => by subst r; exact ret h' tk' F' N') (fun _ _ _ _ _ z => z.elim)
/-- a contract whose value is said but for one thing -/
theorem Tell.useT {α : Type} {X : α → Value} (C : Tell w k f vs P (fun _ _ v => ∃ t, v = X t) (fun _ _ => False)) (B : Below A₀ base outer g) (F : Fr g L h m) (N : News g L h news) (XB : (_root_.MineH.hd.heap_1 w.params).In base) (TB : Top _root_.MineH.hd.view_39 (looseW _root_.MineH.hd.view_39 [Str.ofString "BasicError", Str.ofString "PAIRS"]) mean mg mb base) (hk : cs.kind = .function)
    (hd : dp + k < recursionLimit) (hu : un + 10 * k < cLine) (hp : P h) (ret : ∀ h' tk' t, Fr g L h' m → News g L h' news → Q (X t) ⟨h', gs, dr, tk', os⟩) :
    CHold (wpAny (model PySem.Challenge.rw_pq0143_01.prog w) (ctx dp un gd (envX cn cs L a ccd cl :: outer)) (call (.ref f) vs) Q E ⟨h, gs, dr, tk, os⟩) :=
  mkC <| Tell.use C B F N XB TB hk hd hu hp (fun v h' tk' _ F' N' r => by obtain ⟨t, r⟩ := r; subst r; exact ret h' tk' t F' N') (fun _ _ _ _ _ z => z.elim)
end
end Mine
/-! TJ -/
namespace Mine
theorem start_TJ : True := by
  w_top off
  trivial
def JHold (P : Prop) : Prop := P
theorem holdJ {P : Prop} (h : JHold P) : P := h
/-- two ways meet: what holds behind either of them -/
def JEnd (J : Shared → Prop) (f : Flow) (s : Shared) : Prop := f = .next ∧ J s
theorem join_rule {M : Model} {A : Around} {t : Sem Flow} {Q : Flow → Shared → Prop} {E : Value → Shared → Prop} {s : Shared} (J : Shared → Prop) (h : wpAny M A t (JEnd J) E s) (r : ∀ s', J s' → Q .next s') : JHold (wpAny M A t Q E s) :=
  wpAny_mono h (fun f s' q => by obtain ⟨rfl, j⟩ := q; exact r s' j) fun _ _ z => z
theorem Fr_had {g h : Heap} {L : Addr} {m : Str → Option Value} {a : Str} {v : Option Value} (F : Fr g L h m) (e : m a = v) : Fr g L h (fun y => if y = a then v else m y) :=
  Fr_eq F (funext fun y => by
    by_cases q : y = a
    · rw [if_pos q, q, e]
    · rw [if_neg q])
theorem Fr_twice {g h : Heap} {L : Addr} {m : Str → Option Value} {a : Str} {v u : Option Value} (F : Fr g L h (fun y => if y = a then v else if y = a then u else m y)) : Fr g L h (fun y => if y = a then v else m y) :=
  Fr_eq F (funext fun y => by
    by_cases q : y = a
    · rw [if_pos q, if_pos q]
    · rw [if_neg q, if_neg q, if_neg q])
section
variable {M : Model} {A : Around} {t : Sem Flow} {Q : Flow → Shared → Prop} {E : Value → Shared → Prop} {s : Shared} {g h : Heap} {L : Addr} {m : Str → Option Value} {news : List (Addr × Obj)} {gs : Array GenState} {dr : Drawn} {os : OsState}
/-- two ways meet that store one name's int -/
theorem join_name {tk : Nat} (a : Str) (P : Int → Prop) (F : Fr g L h m) (b : wpAny M A t (JEnd fun s => ∃ h tk tz z, s = ⟨h, gs, dr, tk, os⟩ ∧ Fr g L h (fun y => if y = a then some (.int z tz) else m y) ∧ News g L h news ∧ P z) E ⟨h, gs, dr, tk, os⟩)
    (r : ∀ h tk tz z, Fr g L h (fun y => if y = a then some (.int z tz) else m y) → News g L h news → P z → Q .next ⟨h, gs, dr, tk, os⟩) : JHold (wpAny M A t Q E ⟨h, gs, dr, tk, os⟩) :=
  join_rule _ b fun s' ⟨h, tk, tz, z, e, F, N, p⟩ => by rw [e]; exact r h tk tz z F N p
theorem join_old {a : Str} {P : Int → Prop} {z : Int} {tz : Tok} {tk : Nat} (F : Fr g L h m) (N : News g L h news) (e : m a = some (.int z tz)) (p : P z) : JEnd (fun s => ∃ h tk tz z, s = ⟨h, gs, dr, tk, os⟩ ∧ Fr g L h (fun y => if y = a then some (.int z tz) else m y) ∧ News g L h news ∧ P z) .next ⟨h, gs, dr, tk, os⟩ :=
  ⟨rfl, h, tk, tz, z, rfl, Fr_had F e, N, p⟩
theorem join_new {a : Str} {P : Int → Prop} {z : Int} {tz : Tok} {tk : Nat} (F : Fr g L h (fun y => if y = a then some (.int z tz) else m y)) (N : News g L h news) (p : P z) : JEnd (fun s => ∃ h tk tz z, s = ⟨h, gs, dr, tk, os⟩ ∧ Fr g L h (fun y => if y = a then some (.int z tz) else m y) ∧ News g L h news ∧ P z) .next ⟨h, gs, dr, tk, os⟩ :=
  ⟨rfl, h, tk, tz, z, rfl, F, N, p⟩
end
/-- the frame of a call, written out -/
theorem Fr_lit {g h : Heap} {L : Addr} {m : Str → Option Value} (l : List (Str × Value)) (F : Fr g L h m) (e : m = fun y => List.lookup y l) : Fr g L h (fun y => List.lookup y l) := e ▸ F
end Mine
/-! TL -/
namespace Mine
theorem start_TL : True := by
  w_top off
  trivial
/-! texts: plain laws -/
theorem sgl (a b : Nat) : ([a] < [b]) ↔ a < b := by simp [List.cons_lt_cons_iff]
theorem s0 : (Str.ofString "0").cps.toList = [48] := by decide +kernel
theorem s9 : (Str.ofString "9").cps.toList = [57] := by decide +kernel
theorem sA : (Str.ofString "A").cps.toList = [65] := by decide +kernel
theorem sZ : (Str.ofString "Z").cps.toList = [90] := by decide +kernel
theorem sa : (Str.ofString "a").cps.toList = [97] := by decide +kernel
theorem sz : (Str.ofString "z").cps.toList = [122] := by decide +kernel
def isFig (c : Nat) : Bool := decide (48 ≤ c ∧ c ≤ 57)
def isLet (c : Nat) : Bool := decide ((65 ≤ c ∧ c ≤ 90) ∨ (97 ≤ c ∧ c ≤ 122))
def isBlk (c : Nat) : Bool := decide (c = 32 ∨ c = 9)
def isName (c : Nat) : Bool := isLet c || isFig c || decide (c = 46)
def isFig1 (x : Str) : Bool := !decide (x.cps.toList < [48]) && !decide ([57] < x.cps.toList)
def isLet1 (x : Str) : Bool := (!decide (x.cps.toList < [65]) && !decide ([90] < x.cps.toList)) || (!decide (x.cps.toList < [97]) && !decide ([122] < x.cps.toList))
theorem isFig1_one (c : Nat) : isFig1 ⟨#[c]⟩ = isFig c := by
  unfold isFig1 isFig
  rw [Bool.eq_iff_iff]
  simp only [Bool.and_eq_true, Bool.not_eq_true', decide_eq_false_iff_not, decide_eq_true_eq, sgl, Nat.not_lt]
theorem isLet1_one (c : Nat) : isLet1 ⟨#[c]⟩ = isLet c := by
  unfold isLet1 isLet
  rw [Bool.eq_iff_iff]
  simp only [Bool.and_eq_true, Bool.or_eq_true, Bool.not_eq_true', decide_eq_false_iff_not, decide_eq_true_eq, sgl, Nat.not_lt]
/-- how many signs p takes -/
def runL (p : Nat → Bool) (t : List Nat) : Nat := (t.takeWhile p).length
/-- behind the signs from a on that p takes -/
def runE (p : Nat → Bool) (l : List Nat) (a : Nat) : Nat := a + runL p (l.drop a)
theorem runE_step {p : Nat → Bool} {l : List Nat} {b c : Nat} (h : l[b]? = some c) (hp : p c = true) : runE p l (b + 1) = runE p l b := by
  have hb : b < l.length := (List.getElem?_eq_some_iff.mp h).1
  have hc : l[b] = c := (List.getElem?_eq_some_iff.mp h).2
  unfold runE runL
  rw [List.drop_eq_getElem_cons hb, hc, List.takeWhile_cons, hp]
  simp; omega
theorem runE_stop {p : Nat → Bool} {l : List Nat} {b c : Nat} (h : l[b]? = some c) (hp : p c = false) : runE p l b = b := by
  have hb : b < l.length := (List.getElem?_eq_some_iff.mp h).1
  have hc : l[b] = c := (List.getElem?_eq_some_iff.mp h).2
  unfold runE runL
  rw [List.drop_eq_getElem_cons hb, hc, List.takeWhile_cons, hp]
  simp
theorem runE_out {p : Nat → Bool} {l : List Nat} {b : Nat} (h : l.length ≤ b) : runE p l b = b := by
  unfold runE runL
  rw [List.drop_eq_nil_of_le h]; rfl
theorem row_len (row : Str) : row.cps.toList.length = row.length := Array.length_toList
theorem item_one {row : Str} {b : Nat} (h : (b : Int) < row.length) : ∃ c, row.cps.toList[b]? = some c ∧ Txt.item row b = ⟨#[c]⟩ := by
  have hb : b < row.cps.size := by have : row.length = row.cps.size := rfl; omega
  refine ⟨row.cps[b], by simp [hb], ?_⟩
  refine item_meets (n := row.cps[b]) (by omega) ?_
  simp [hb]
theorem item_is {row : Str} {b c : Nat} (h : row.cps.toList[b]? = some c) : Txt.item row b = ⟨#[c]⟩ := by
  have hb : b < row.cps.toList.length := (List.getElem?_eq_some_iff.mp h).1
  obtain ⟨c', h1, h2⟩ := item_one (row := row) (b := b) (by rw [row_len] at hb; omega)
  rw [h] at h1; cases h1; exact h2
theorem within (T : Str) (c : Nat) : (Builtin.Str.occurrences T ⟨#[c]⟩ 0 T.length 1).isEmpty = !decide (c ∈ T.cps.toList) := by
  rw [← StrLaws.found_one, Bool.not_not]
theorem blkT : (Str.ofString " \t").cps.toList = [32, 9] := by decide +kernel
theorem isBlk_one (c : Nat) : (Builtin.Str.occurrences (Str.ofString " \t") ⟨#[c]⟩ 0 (Str.ofString " \t").length 1).isEmpty = !isBlk c := by
  rw [within, blkT]
  unfold isBlk
  congr 1
  rw [Bool.eq_iff_iff]; simp
theorem nn (i : Nat) : ¬ (i : Int) < 0 := Int.not_lt.mpr (Int.natCast_nonneg i)
theorem min_clip (i n : Nat) : min ((min i n : Nat) : Int) (n : Int) = min (i : Int) (n : Int) := by
  by_cases h : i ≤ n
  · rw [Nat.min_eq_left h]
  · have h' := Nat.le_of_not_le h
    rw [Nat.min_eq_right h', Int.min_self, Int.min_eq_right (Int.ofNat_le.mpr h')]
theorem indices_clip (n i j : Nat) : Builtin.Str.strSliceIndices (some (i : Int)) (some (j : Int)) 1 n = Builtin.Str.strSliceIndices (some ((min i n : Nat) : Int)) (some ((min j n : Nat) : Int)) 1 n := by
  have h2 : (1 : Int) > 0 := by decide
  simp only [Builtin.Str.strSliceIndices, nn, h2, if_false, if_true, min_clip]
theorem slice_nat (x : Str) (i j : Nat) (h : i ≤ j) : Txt.slice x (some (i : Int)) (some (j : Int)) = ⟨((x.cps.toList.drop i).take (j - i)).toArray⟩ := by
  have e : Txt.slice x (some (i : Int)) (some (j : Int)) = Txt.slice x (some ((min i x.length : Nat) : Int)) (some ((min j x.length : Nat) : Int)) := by
    unfold Txt.slice
    rw [indices_clip]
  have hl := row_len x
  have hsz : x.cps.size = x.length := rfl
  rw [e]
  have := beq_iff_eq.mp (slice_closes (x := x) (i := ((min i x.length : Nat) : Int)) (j := ((min j x.length : Nat) : Int)) ⟨Int.natCast_nonneg _, Int.ofNat_le.mpr (Nat.le_min.mpr ⟨Nat.le_trans (Nat.min_le_left _ _) h, Nat.min_le_right _ _⟩), Int.ofNat_le.mpr (Nat.min_le_right _ _)⟩)
  rw [this]
  congr 2
  rw [Int.toNat_natCast]
  rw [Int.toNat_sub]
  by_cases hi : i ≤ x.length
  · rw [Nat.min_eq_left hi]
    by_cases hj : j ≤ x.length
    · rw [Nat.min_eq_left hj]
    · rw [Nat.min_eq_right (by omega), List.take_of_length_le (by simp; omega), List.take_of_length_le (by simp; omega)]
  · rw [Nat.min_eq_right (by omega), Nat.min_eq_right (by omega)]
    rw [List.drop_eq_nil_of_le (by omega), List.drop_eq_nil_of_le (by omega)]
    simp
theorem slice_fromN (x : Str) (i : Nat) : Txt.slice x (some (i : Int)) none = ⟨(x.cps.toList.drop i).toArray⟩ := by
  have hl := row_len x
  have hsz : x.cps.size = x.length := rfl
  by_cases h : i ≤ x.length
  · rw [slice_from_eq (b := (x.length : Int)) (by omega) (by omega) rfl]
    congr 2
    rw [Int.toNat_natCast, List.take_of_length_le (by simp; omega)]
  · rw [slice_beyond (by omega)]
    rw [List.drop_eq_nil_of_le (by omega)]
    rfl
theorem find3_at {x : Str} {c i k : Nat} (hik : i ≤ k) (hk : x.cps.toList[k]? = some c) (hn : ∀ j, i ≤ j → j < k → x.cps.toList[j]? ≠ some c) : Txt.find3 x ⟨#[c]⟩ (i : Int) = k := by
  have h1 : PySem.fromIndex x.length (i : Int) = i := by
    unfold PySem.fromIndex; rw [if_neg (nn i)]; rfl
  unfold Txt.find3
  rw [h1]
  rcases StrLaws.occ_head_from x ⟨#[c]⟩ i 1 (Nat.le_refl 1) with ⟨h0, hno⟩ | ⟨j, r, h0, hj, hat, hfirst⟩
  · exact absurd ((StrLaws.subAt_one x c k).mpr hk) (hno k hik)
  · rw [h0]
    have hj' := (StrLaws.subAt_one x c j).mp hat
    show ((j : Nat) : Int) = (k : Int)
    rcases Nat.lt_trichotomy j k with q | q | q
    · exact absurd hj' (hn j hj q)
    · rw [q]
    · exact absurd ((StrLaws.subAt_one x c k).mpr hk) (hfirst k hik q)
end Mine
/-! RB -/
namespace Mine
theorem start_RB : True := by
  w_top off
  trivial
theorem cls34 (w : World) (h : Heap) (hp : PySem.Challenge.rw_pq0143_01.prog = PySem.Challenge.rw_pq0143_01.prog) (X : (_root_.MineH.hd.heap_1 w.params).In h) : ∃ nm q N bs hdct sn sub ab col dd k0 k1 k2 k3 k5, h.get? 34 = some (excClassObj nm q 34 N bs bm0 hdct sn sub ab col dd k0 k1 k2 k3 k5 "Exception.__new__") := by
  revert X hp; k_fill; intro hp X
  exact ⟨_, _, _, _, _, _, _, _, _, _, _, _, _, _, _, X 34 _ (by k_is)⟩
def RaisB (w : World) (E : Value → Shared → Prop) (v : Value) (s₁ : Shared) : Prop :=
  ∃ a d t, v = .ref a ∧ (_root_.MineH.hd.heap_1 w.params).In s₁.heap ∧ s₁.heap.get? a = some (beObj d t) ∧ E (.ref a) s₁
section
variable {w : World} {A : Around} {E : Value → Shared → Prop} {env : Env} {s : Shared}
theorem raiseStmt_be {x : Sem Value} {Q : Flow → Shared → Prop} (hh : A.handled = none)
    (h : wpAny (model PySem.Challenge.rw_pq0143_01.prog w) A x (RaisB w E) E s) : wpAny (model PySem.Challenge.rw_pq0143_01.prog w) A (raiseStmt env (some x) none) Q E s := by
  have hcB : (Value.ref 34 :: bm0).contains (.type "BaseException") = true := by decide
  unfold raiseStmt
  refine wpAny_bind (wpAny_mono h (fun v s₁ h₁ => ?_) fun _ _ x => x)
  obtain ⟨a, d, t, rfl, X, he, hE⟩ := h₁
  obtain ⟨nm, q, N, bs, hdct, sn, sub, ab, col, dd, k0, k1, k2, k3, k5, hC⟩ := cls34 w _ rfl X
  obtain ⟨hp, g, dr, tk, os⟩ := s₁
  repeat (first | with_reducible refine wpAny_loadPart_at he ?_ | with_reducible refine wpAny_loadPart_at hC ?_ | (with_reducible refine wpAny_isSubtype_exc hC ?_; rw [hcB]) | wp_step)
  exact wpAny_raiseNew_none hh hE
theorem Raise_be {e : PySem.Expr} {pos : Pos} {Q : Flow → Shared → Prop} (hh : A.handled = none)
    (h : wpAny (model PySem.Challenge.rw_pq0143_01.prog w) A (eval e env) (RaisB w E) E s) : wpAny (model PySem.Challenge.rw_pq0143_01.prog w) A (exec (.Raise (some e) none pos) env) Q E s := by
  rw [arm_exec_Raise]
  simp only [evalOpt, Option.map]
  refine wpAny_bind (wpAny_standAt (raiseStmt_be hh (wpAny_bind (wpAny_mono h (fun v s₁ h₁ => wpAny_bind (wpAny_standAt (wpAny_pure h₁))) fun _ _ x => x))))
end
end Mine
/-! TM -/
namespace Mine
theorem start_TM : True := by
  w_top off
  trivial
/-! the signs that a row's rest begins with -/
def one (t : List Nat) : Str := ⟨(t.take 1).toArray⟩
theorem one_nil : one [] = ⟨#[]⟩ := rfl
theorem one_cons (c : Nat) (r : List Nat) : one (c :: r) = ⟨#[c]⟩ := rfl
theorem slice1 (x : Str) (a : Nat) : Txt.slice x (some (a : Int)) (some ((a : Int) + 1)) = one (x.cps.toList.drop a) := by
  have := slice_nat x a (a + 1) (by omega)
  rw [show a + 1 - a = 1 by omega] at this
  exact this
theorem slice2 (x : Str) (a : Nat) : Txt.slice x (some ((a : Int) + 1)) (some ((a : Int) + 2)) = one (x.cps.toList.drop (a + 1)) := by
  have := slice_nat x (a + 1) (a + 2) (by omega)
  rw [show a + 2 - (a + 1) = 1 by omega] at this
  exact this
/-- the rest begins with one of these -/
def heads (cs : List Nat) (u : List Nat) : Bool := match u with
  | c :: _ => decide (c ∈ cs)
  | [] => false
theorem str_one_eq (a b : Nat) : ((⟨#[a]⟩ : Str) == ⟨#[b]⟩) = decide (b = a) := by
  rw [Bool.eq_iff_iff, beq_iff_eq, decide_eq_true_eq, Str.mk.injEq]
  constructor
  · intro h; injection h with h; injection h with h; exact h.symm
  · rintro rfl; rfl
theorem str_one_ne (a : Nat) : ((⟨#[a]⟩ : Str) == ⟨#[]⟩) = false := by
  rw [Bool.eq_false_iff, ne_eq, beq_iff_eq, Str.mk.injEq]
  intro h; injection h with h; cases h
theorem o_E : Str.ofString "E" = ⟨#[69]⟩ := by decide +kernel
theorem o_e : Str.ofString "e" = ⟨#[101]⟩ := by decide +kernel
theorem o_plus : Str.ofString "+" = ⟨#[43]⟩ := by decide +kernel
theorem o_minus : Str.ofString "-" = ⟨#[45]⟩ := by decide +kernel
theorem o_dot : Str.ofString "." = ⟨#[46]⟩ := by decide +kernel
theorem o_bang : Str.ofString "!" = ⟨#[33]⟩ := by decide +kernel
theorem o_cent : Str.ofString "%" = ⟨#[37]⟩ := by decide +kernel
theorem o_doll : Str.ofString "$" = ⟨#[36]⟩ := by decide +kernel
theorem o_quot : Str.ofString "\"" = ⟨#[34]⟩ := by decide +kernel
theorem any2 (a b : Nat) (u : List Nat) : (([⟨#[a]⟩, ⟨#[b]⟩] : List Str).any fun x => x == one u) = heads [a, b] u := by
  cases u with
  | nil => simp only [one_nil, List.any_cons, List.any_nil, str_one_ne]; rfl
  | cons c r => simp only [one_cons, List.any_cons, List.any_nil, str_one_eq, heads, Bool.or_false]; rw [Bool.eq_iff_iff]; simp
theorem any3 (a b c : Nat) (u : List Nat) : (([⟨#[a]⟩, ⟨#[b]⟩, ⟨#[c]⟩] : List Str).any fun x => x == one u) = heads [a, b, c] u := by
  cases u with
  | nil => simp only [one_nil, List.any_cons, List.any_nil, str_one_ne]; rfl
  | cons d r => simp only [one_cons, List.any_cons, List.any_nil, str_one_eq, heads, Bool.or_false]; rw [Bool.eq_iff_iff]; simp [or_assoc]
/-- the signs of a power, or none: too many figures -/
def powT (u : List Nat) : Option Nat :=
  if heads [69, 101] u = true then
    (let s := if heads [43, 45] (u.drop 1) = true then 2 else 1
     let f := runL isFig (u.drop s)
     if 3 < f then none else some (if 0 < f then s + f else 0))
  else some 0
theorem o_nil : Str.ofString "" = ⟨#[]⟩ := by decide +kernel
theorem one_ne (u : List Nat) : (one u != (⟨#[]⟩ : Str)) = !u.isEmpty := by
  cases u with
  | nil => rfl
  | cons c r => rw [one_cons, bne, str_one_ne]; rfl
theorem heads_ne {cs u : List Nat} (h : heads cs u = true) : u.isEmpty = false := by
  cases u with
  | nil => cases h
  | cons c r => rfl
/-- behind a name -/
def nameE (l : List Nat) (a : Nat) : Nat := let n := runE isName l a; if heads [37, 36, 33] (l.drop n) = true then n + 1 else n
section
variable {prog : Program} {w : World} {A : Around} {E : Value → Shared → Prop} {s : Shared} {x y : Str} {t u v v' : Tok} {i j : Int} {Q : Value → Shared → Prop}
theorem find4_tree : ∃ lo hi, Builtin.«str.find» ⟨[.str x t, .str y u, .int i v, .int j v'], []⟩ = (match Builtin.Str.occurrences x y lo hi 1 with | k :: _ => retInt k | [] => (do rule "str.find.not-found"; retInt (-1))) := ⟨_, _, rfl⟩
/-- find between two places: some int -/
theorem find4 (hq : ∀ k, Q (.int k s.toks) { s with toks := s.toks + 1 }) : wpAny (model prog w) A (call (.builtin "str.find") [.str x t, .str y u, .int i v, .int j v']) Q E s := by
  obtain ⟨lo, hi, e⟩ := find4_tree (x := x) (y := y) (t := t) (u := u) (i := i) (j := j) (v := v) (v' := v')
  have G : Gives (Builtin.«str.find» ⟨[.str x t, .str y u, .int i v, .int j v'], []⟩) (.int (match Builtin.Str.occurrences x y lo hi 1 with | k :: _ => (k : Int) | [] => -1)) := by
    rw [e]
    cases Builtin.Str.occurrences x y lo hi 1 with
    | nil => exact .rule (.of_eq rfl)
    | cons k _ => exact .of_eq rfl
  exact call_gives F.slot_str_find (typeIs_str _ _ _) F.entry_str_find (F.args_str_find_4 _ _ _ _) G (hq _)
end
/-- no small letter -/
def Low (x : Str) : Prop := ∀ c ∈ x.cps.toList, ¬ (97 ≤ c ∧ c ≤ 122)
theorem low_slice {x : Str} {i j : Option Int} (h : Low x) : Low (Txt.slice x i j) := by
  intro c hc
  unfold Txt.slice at hc
  split at hc
  · exact h c hc
  · simp only [List.mem_filterMap] at hc
    obtain ⟨k, _, hk⟩ := hc
    refine h c ?_
    have : x.cps.toList[k]? = some c := by simpa using hk
    exact List.mem_of_getElem? this
/-- the signs of a number, or the place of what is too long in it -/
def numT (t : List Nat) : Except Nat Nat :=
  let n1 := runL isFig t
  let n := if heads [46] (t.drop n1) = true then n1 + 1 + runL isFig (t.drop (n1 + 1)) else n1
  if 40 < n then .error 0 else match powT (t.drop n) with
    | none => .error n
    | some k => .ok (n + k)
theorem one_eq (c : Nat) (u : List Nat) : (one u == (⟨#[c]⟩ : Str)) = heads [c] u := by
  cases u with
  | nil => rw [one_nil, heads, Bool.eq_false_iff, ne_eq, beq_iff_eq, Str.mk.injEq]; intro h; injection h with h; cases h
  | cons d r => rw [one_cons, str_one_eq, heads]; rw [Bool.eq_iff_iff]; simp [eq_comm]
theorem heads_sub {c : Nat} {cs u : List Nat} (h : heads [c] u = true) (hc : c ∈ cs) : heads cs u = true := by
  cases u with
  | nil => cases h
  | cons d r =>
    have : d = c := by simpa [heads] using h
    subst this
    simp [heads, hc]
theorem tN1 (x : Nat) : ((x : Int) + 1).toNat = x + 1 := by omega
end Mine
/-! CS -/
namespace Mine
theorem start_CS : True := by
  w_top off
  trivial
section
variable {prog : Program} {w : World} {A : Around} {E : Value → Shared → Prop} {s : Shared} {h₀ : Heap} {L : Addr} {m : Str → Option Value} {env : Env}
theorem strIter_st {ty : String} {I : Addr} {y : Str} {t : Tok} : ∀ i (h h' : Heap) (o : Obj) (nw : List (Addr × Obj)), h.IsStrIter I ty y t i → h.get? I = some o → h'.get? I = some o → (∀ b o, h₀.get? b = some o → h'.get? b = some o) → News h₀ L h' nw → True → h'.IsStrIter I ty y t i :=
  fun i h h' o nw st e e' _ _ _ => by
    obtain ⟨o', q, r⟩ := st
    rw [e] at q; cases q
    exact ⟨o, e', r⟩
/-- a list comprehension over a text -/
theorem ListComp_S {elt iter : PySem.Expr} {x : Str} {px : Pos} {scope : Scope} {cl : List (Str × Addr)} {pos : Pos} {Q : Value → Shared → Prop}
    (hclos : closureFor scope env = pure cl) (hcell : ∀ y ∈ scope.names, y.2 ≠ .cell) (hkind : scope.kind = .function)
    (hnames : ∀ y ∈ scope.names, y.2 = .local → scope.names.lookup y.1 = some .local) (hx : scope.names.lookup x = some .local)
    (h : wpAny (model prog w) A (eval iter env) (fun xv s₁ => WHold (∃ y t news, xv = .str y t ∧ A.handled = none ∧ Fr h₀ L s₁.heap m ∧ News h₀ L s₁.heap news ∧ y.cps.size ≤ sizeLine ∧
      ∀ s₂ : Shared, (∃ h, s₂ = { s₁ with heap := h }) → LCg.CompRest prog w A h₀ L m env elt x scope cl s₂ (fun _ => True) (SignAt y) (LCg.FinE h₀ L m s₂ Q) y.cps.size 0 [] news)) E s)
    (hs : ∀ x, foldedSetIterable iter env x = pure x := by intro _; rfl) :
    wpAny (model prog w) A (eval (.ListComp elt [⟨.Name x px, iter, [], 0⟩] scope pos) env) Q E s := by
  rw [eval_ListComp]
  refine wpAny_comprehension_free (use := none) rfl hs hclos hkind hnames (wpAny_mono h (fun xv s₁ h₁ => ?_) fun _ _ e => e)
  unfold WHold at h₁
  obtain ⟨y, t, news, rfl, hh, F, N, hsz, R⟩ := h₁
  have fin : ∀ D C h tk m' ys news', Fr h₀ L h m → News h₀ L h ((D, LCg.lst ys) :: news') → LCg.Off1 D news' → h.Ns C m' → h₀.get? C = none → h₀.get? D = none → C ≠ L → D ≠ L → C ≠ D → (∀ p ∈ news', p.1 ≠ C) →
      LCg.FinE h₀ L m s₁ Q ys news' → ∃ m', h.Ns C m' ∧ ∀ h'', Heap.SameBut C h h'' → Q (.ref D) { s₁ with heap := h'', toks := tk } := by
    intro D C h tk m' ys news' F' N' o1 hn hC₀ hD₀ hCL hDL hCD offC fin
    refine ⟨m', hn, fun h'' hs'' => fin D h'' tk (F'.change hs'' hCL hC₀) (fun p hp => ?_) o1⟩
    refine ⟨hs''.extBut _ _ ?_ (N' p hp).1, (N' p hp).2⟩
    rcases List.mem_cons.mp hp with rfl | hp
    · exact Ne.symm hCD
    · exact offC p hp
  have lt : ∀ o : Obj, ∀ b ∈ [s₁.heap.objs.size], b < (s₁.heap.push o).objs.size := fun o b hb => by
    rw [List.mem_singleton.mp hb, Heap.size_push]; exact Nat.lt_succ_self _
  cases ha : y.cps.all (· < 128)
  · refine wpAny_pyIter_wide ha ?_
    refine LCg.block_U (Walks.strWide hh _ y t) hsz (fun i h st => by obtain ⟨o, e, _⟩ := st; exact ⟨o, e⟩) strIter_st hcell hkind hx ⟨_, Heap.get?_push_size _ rfl, rfl, rfl⟩ (lt _)
      (F.keeps fun _ _ e => Heap.get?_push_of_some _ e) (N.grown fun _ _ e => Heap.get?_push_of_some _ e) (Nat.ne_of_lt F.ns.lt) (next_is_new F) (fun p hp => Nat.ne_of_lt (Heap.lt_size (N p hp).1)) trivial (R _ ⟨_, rfl⟩) ?_
    exact fin
  · refine wpAny_pyIter_ascii ha ?_
    refine LCg.block_U (Walks.strAscii hh _ y t) hsz (fun i h st => by obtain ⟨o, e, _⟩ := st; exact ⟨o, e⟩) strIter_st hcell hkind hx ⟨_, Heap.get?_push_size _ rfl, rfl, rfl⟩ (lt _)
      (F.keeps fun _ _ e => Heap.get?_push_of_some _ e) (N.grown fun _ _ e => Heap.get?_push_of_some _ e) (Nat.ne_of_lt F.ns.lt) (next_is_new F) (fun p hp => Nat.ne_of_lt (Heap.lt_size (N p hp).1)) trivial (R _ ⟨_, rfl⟩) ?_
    exact fin
theorem strs_snoc {y : Str} {t : Tok} : ∀ {vs : List Value} {ys : List Str}, StrsAre vs ys → StrsAre (vs ++ [.str y t]) (ys ++ [y])
  | _, _, .nil => .cons y t .nil
  | _, _, .cons z u r => .cons z u (strs_snoc r)
theorem rest_S {elt : PySem.Expr} {x : Str} {scope : Scope} {cl : List (Str × Addr)} {S : List (Addr × Obj) → Prop} {Fin : List Value → List (Addr × Obj) → Prop} {news : List (Addr × Obj)} {y : Str} (f : Nat → Nat)
    (turn : ∀ c u I oI C oC D m₂ ys h tk (E' : Value → Shared → Prop), c ∈ y.cps.toList → LCg.NsObj oC m₂ → m₂ x = some (.str ⟨#[c]⟩ u) → Fr h₀ L h m → News h₀ L h ((I, oI) :: (C, oC) :: (D, LCg.lst ys) :: news) → LCg.Off3 I C D news → ((@Ne Nat I C) ∧ (@Ne Nat I D) ∧ (@Ne Nat C D)) →
      wpAny (model prog w) A (eval elt (compEnvC scope cl C env)) (LCg.CompEnd h₀ L m { s with heap := h, toks := tk } I oI C oC D (LCg.lst ys) S (fun v news' => news' = news ∧ ∃ t, v = .str ⟨#[f c]⟩ t)) E' { s with heap := h, toks := tk })
    (fin : ∀ ys, StrsAre ys (y.cps.toList.map fun c => (⟨#[f c]⟩ : Str)) → Fin ys news) : LCg.CompRest prog w A h₀ L m env elt x scope cl s S (SignAt y) Fin y.cps.size 0 [] news := by
  have key : ∀ (j i : Nat) (ys : List Value), i + j = y.cps.size → StrsAre ys ((y.cps.toList.take i).map fun c => (⟨#[f c]⟩ : Str)) → LCg.CompRest prog w A h₀ L m env elt x scope cl s S (SignAt y) Fin j i ys news := by
    intro j
    induction j with
    | zero =>
      intro i ys hi hy
      have e : i = y.cps.toList.length := by rw [Array.length_toList]; omega
      subst e
      rw [List.take_length] at hy
      exact LCg.CompRest.zero (fin ys hy)
    | succ j ih =>
      intro i ys hi hy
      refine LCg.CompRest.succ ?_
      intro v I oI C oC D m₂ h tk E' hv hC hx F N off ne
      obtain ⟨c, u, hc, rfl⟩ := hv
      have hc' : y.cps.toList[i]? = some c := by simpa using hc
      refine wpAny_mono (turn c u I oI C oC D m₂ ys h tk E' (List.mem_of_getElem? hc') hC hx F N off ne) (fun v s₂ hq => ?_) fun _ _ e => e
      obtain ⟨h', tk', nw, e, F', N', off', hS, hn, t', hy'⟩ := hq
      subst hn
      refine ⟨h', tk', nw, e, F', N', off', hS, ?_⟩
      rw [hy']
      refine ih (i + 1) _ (by omega) ?_
      rw [List.take_add_one, hc']
      simpa using strs_snoc hy
  exact key _ 0 [] (by omega) (by simp only [List.take_zero, List.map_nil]; exact .nil)
end
end Mine
/-! T1 -/
namespace Mine
theorem start_T1 : True := by
  w_top off
  trivial
theorem isFigure (w : World) (x : Str) (tk : Tok) : Tell w 5 67 [.str x tk] (fun _ => True) (fun _ _ v => v = .bool (isFig1 x)) (fun _ _ => False) := by
  unfold Tell
  intro mean mg mb dp un gd l base g gs dr tk os Q E B XB TB hd' hu hP ret rai
  revert XB; k_fill; intro XB
  have cLi := cLine_is
  have reci : recursionLimit = 1000 := rfl
  refine wpAny_call ?_
  k_dflt (refine' enterP (l0 := [("sign", _)]) ?k1 ?k2 ?k3 ?k6 ?k7 ?k8 ?k9 ?kl ?kB ?_ ?c2 ?c3 ?c4 ?c5; (case k1 => exact B); (case k2 => exact XB); (case k3 => exact TB); (case k6 => k_is); (case k7 => k_is); (case k8 => exact roomZ hd'); (case k9 => exact BindsTo.of_eq rfl); (case kl => exact rfl); (case c5 => decide); (case kB => exact locs rfl); (case c2 => exact rfl); (case c3 => exact rfl); (case c4 => exact rfl); k_whole)
  intro L' h' tk0 F' N' X T
  dsimp only
  k_fold
  (k_with_none; (k_with "ne" => (first | exact ne_gt (by with_reducible assumption) | exact ne_lt (by with_reducible assumption) | with_reducible assumption | exact Ne.symm (by with_reducible assumption) | exact ne_gt (And.left (by with_reducible assumption)) | exact ne_gt (And.left (And.right (by with_reducible assumption))) | exact ne_gt (And.right (by with_reducible assumption)) | exact ne_gt (And.right (And.right (by with_reducible assumption))) | exact ne_lt (And.left (by with_reducible assumption)) | exact ne_lt (And.left (And.right (by with_reducible assumption))) | exact ne_lt (And.right (by with_reducible assumption)) | exact ne_lt (And.right (And.right (by with_reducible assumption))))); k_steps)
  all_goals ((try dsimp only); (try (first | k_unfold | dsimp only [qk])); (try dsimp only); unfold LeaveP; dsimp only; refine ret _ _ _ (Fr.keep (by k_asm)) ?_; try dsimp only)
  all_goals (simp only [s0, s9] at *; simp [isFig1, *])
theorem isLetter (w : World) (x : Str) (tk : Tok) : Tell w 5 60 [.str x tk] (fun _ => True) (fun _ _ v => v = .bool (isLet1 x)) (fun _ _ => False) := by
  unfold Tell
  intro mean mg mb dp un gd l base g gs dr tk os Q E B XB TB hd' hu hP ret rai
  revert XB; k_fill; intro XB
  have cLi := cLine_is
  have reci : recursionLimit = 1000 := rfl
  refine wpAny_call ?_
  k_dflt (refine' enterP (l0 := [("sign", _)]) ?k1 ?k2 ?k3 ?k6 ?k7 ?k8 ?k9 ?kl ?kB ?_ ?c2 ?c3 ?c4 ?c5; (case k1 => exact B); (case k2 => exact XB); (case k3 => exact TB); (case k6 => k_is); (case k7 => k_is); (case k8 => exact roomZ hd'); (case k9 => exact BindsTo.of_eq rfl); (case kl => exact rfl); (case c5 => decide); (case kB => exact locs rfl); (case c2 => exact rfl); (case c3 => exact rfl); (case c4 => exact rfl); k_whole)
  intro L' h' tk0 F' N' X T
  dsimp only
  k_fold
  (k_with_none; (k_with "ne" => (first | exact ne_gt (by with_reducible assumption) | exact ne_lt (by with_reducible assumption) | with_reducible assumption | exact Ne.symm (by with_reducible assumption) | exact ne_gt (And.left (by with_reducible assumption)) | exact ne_gt (And.left (And.right (by with_reducible assumption))) | exact ne_gt (And.right (by with_reducible assumption)) | exact ne_gt (And.right (And.right (by with_reducible assumption))) | exact ne_lt (And.left (by with_reducible assumption)) | exact ne_lt (And.left (And.right (by with_reducible assumption))) | exact ne_lt (And.right (by with_reducible assumption)) | exact ne_lt (And.right (And.right (by with_reducible assumption))))); k_steps)
  all_goals ((try dsimp only); (try (first | k_unfold | dsimp only [qk])); (try dsimp only); unfold LeaveP; dsimp only; refine ret _ _ _ (Fr.keep (by k_asm)) ?_; try dsimp only)
  all_goals (simp only [sA, sZ, sa, sz] at *; simp [isLet1, *])
end Mine
/-! T2 -/
namespace Mine
theorem start_T2 : True := by
  w_top off
  trivial


theorem figuresEnd (w : World) (row : Str) (tr : Tok) (i : Int) (ta : Tok) (hr : row.length ≤ 1000) (hi : 0 ≤ i) : Tell w 10 79 [.str row tr, .int i ta] (fun _ => True) (fun _ _ v => ∃ tk, v = .int (runE isFig row.cps.toList i.toNat) tk) (fun _ _ => False) := by
  obtain ⟨a, rfl⟩ := Int.eq_ofNat_of_zero_le hi
  rw [Int.toNat_natCast]
  clear hi
  unfold Tell
  intro mean mg mb dp un gd l base g gs dr tk os Q E B XB TB hd' hu hP ret rai
  revert XB; k_fill; intro XB
  have cLi := cLine_is
  have reci : recursionLimit = 1000 := rfl
  refine wpAny_call ?_
  k_dflt (refine' enterP (l0 := [("at", _), ("row", _)]) ?k1 ?k2 ?k3 ?k6 ?k7 ?k8 ?k9 ?kl ?kB ?_ ?c2 ?c3 ?c4 ?c5; (case k1 => exact B); (case k2 => exact XB); (case k3 => exact TB); (case k6 => k_is); (case k7 => k_is); (case k8 => exact roomZ hd'); (case k9 => exact BindsTo.of_eq rfl); (case kl => exact rfl); (case c5 => decide); (case kB => exact locs rfl); (case c2 => exact rfl); (case c3 => exact rfl); (case c4 => exact rfl); k_whole)
  intro L' h' tk0 F' N' X T
  dsimp only
  k_fold
  (k_with_none; (k_with "ne" => (first | exact ne_gt (by with_reducible assumption) | exact ne_lt (by with_reducible assumption) | with_reducible assumption | exact Ne.symm (by with_reducible assumption) | exact ne_gt (And.left (by with_reducible assumption)) | exact ne_gt (And.left (And.right (by with_reducible assumption))) | exact ne_gt (And.right (by with_reducible assumption)) | exact ne_gt (And.right (And.right (by with_reducible assumption))) | exact ne_lt (And.left (by with_reducible assumption)) | exact ne_lt (And.left (And.right (by with_reducible assumption))) | exact ne_lt (And.right (by with_reducible assumption)) | exact ne_lt (And.right (And.right (by with_reducible assumption))))); (k_with "exec While" => refine holdW ?_); (k_with "call ref" => refine hold67 ?_); k_steps; repeat' ((first | (k_dflt (refine' Tell.useE (isFigure _ _ _) ?B ?F ?N ?XB ?TB ?hk ?hd ?hu ?hp ?_); (case B => k_asm); (case F => k_asm); (case N => k_asm); (case XB => k_asm); (case TB => k_asm); (case hk => exact rfl); (case hd => first | exact roomD (by assumption) (by decide) | ((try dsimp only [ctx] at *); omega)); (case hu => first | exact roomC (by assumption) (by decide) | exact roomU (by assumption) (by decide) | ((try dsimp only [ctx] at *); omega)); (case hp => first | trivial | assumption);  k_whole; intro h9 tk9 F9 N9; (try k_sweep); (try dsimp only))); k_steps))
  unfold WHold
  refine while_rule (ι := Nat × Tok) (fun i s => ∃ h tk, s = ⟨h, gs, dr, tk, os⟩ ∧ Fr g L' h (fun y => List.lookup y [("at", .int i.1 i.2), ("row", .str row tr)]) ∧ News g L' h [] ∧ runE isFig row.cps.toList i.1 = runE isFig row.cps.toList a) (fun i => row.length - i.1) ?hE ?turn (a, ta) _ ⟨_, _, rfl, ?F, N', rfl⟩
  case hE => with_unfolding_all passes_own
  case F => exact F'
  case turn =>
    rintro ⟨b, tb⟩ s ⟨h, tk, rfl, F1, N1, e1⟩
    clear F' N'
    dsimp only at F1 e1 ⊢
    (k_steps; repeat' ((first | (k_dflt (refine' Tell.useE (isFigure _ _ _) ?B ?F ?N ?XB ?TB ?hk ?hd ?hu ?hp ?_); (case B => k_asm); (case F => k_asm); (case N => k_asm); (case XB => k_asm); (case TB => k_asm); (case hk => exact rfl); (case hd => first | exact roomD (by assumption) (by decide) | ((try dsimp only [ctx] at *); omega)); (case hu => first | exact roomC (by assumption) (by decide) | exact roomU (by assumption) (by decide) | ((try dsimp only [ctx] at *); omega)); (case hp => first | trivial | assumption);  k_whole; intro h9 tk9 F9 N9; (try k_sweep); (try dsimp only))); k_steps))
    · obtain ⟨c, hc, ei⟩ := item_one (row := row) (b := b) (by assumption)
      have hf : isFig1 (Txt.item row b) = true := by assumption
      rw [ei, isFig1_one] at hf
      dsimp only
      unfold TEnd
      refine ⟨(b + 1, _), by dsimp only; omega, _, _, rfl, Fr_eq (by k_asm) (loc_set _ _ _), by k_asm, (runE_step hc hf).trans e1⟩
    · obtain ⟨c, hc, ei⟩ := item_one (row := row) (b := b) (by assumption)
      have hf : isFig1 (Txt.item row b) = false := by assumption
      rw [ei, isFig1_one] at hf
      ((try dsimp only); (try (first | k_unfold | dsimp only [qk])); (try dsimp only); unfold LeaveP; dsimp only; refine ret _ _ _ (Fr.keep (by k_asm)) ?_; try dsimp only)
      refine ⟨_, by rw [← e1, runE_stop hc hf]⟩
    · ((try dsimp only); (try (first | k_unfold | dsimp only [qk])); (try dsimp only); unfold LeaveP; dsimp only; refine ret _ _ _ (Fr.keep (by k_asm)) ?_; try dsimp only)
      refine ⟨_, by rw [← e1, runE_out (by rw [row_len]; omega)]⟩
theorem skippedE (w : World) (row : Str) (tr : Tok) (i : Int) (ta : Tok) (hr : row.length ≤ 1000) (hi : 0 ≤ i) : Tell w 10 86 [.str row tr, .int i ta] (fun _ => True) (fun _ _ v => ∃ tk, v = .int (runE isBlk row.cps.toList i.toNat) tk) (fun _ _ => False) := by
  obtain ⟨a, rfl⟩ := Int.eq_ofNat_of_zero_le hi
  rw [Int.toNat_natCast]
  clear hi
  unfold Tell
  intro mean mg mb dp un gd l base g gs dr tk os Q E B XB TB hd' hu hP ret rai
  revert XB; k_fill; intro XB
  have cLi := cLine_is
  have reci : recursionLimit = 1000 := rfl
  refine wpAny_call ?_
  k_dflt (refine' enterP (l0 := [("at", _), ("row", _)]) ?k1 ?k2 ?k3 ?k6 ?k7 ?k8 ?k9 ?kl ?kB ?_ ?c2 ?c3 ?c4 ?c5; (case k1 => exact B); (case k2 => exact XB); (case k3 => exact TB); (case k6 => k_is); (case k7 => k_is); (case k8 => exact roomZ hd'); (case k9 => exact BindsTo.of_eq rfl); (case kl => exact rfl); (case c5 => decide); (case kB => exact locs rfl); (case c2 => exact rfl); (case c3 => exact rfl); (case c4 => exact rfl); k_whole)
  intro L' h' tk0 F' N' X T
  dsimp only
  k_fold
  (k_with_none; (k_with "ne" => (first | exact ne_gt (by with_reducible assumption) | exact ne_lt (by with_reducible assumption) | with_reducible assumption | exact Ne.symm (by with_reducible assumption) | exact ne_gt (And.left (by with_reducible assumption)) | exact ne_gt (And.left (And.right (by with_reducible assumption))) | exact ne_gt (And.right (by with_reducible assumption)) | exact ne_gt (And.right (And.right (by with_reducible assumption))) | exact ne_lt (And.left (by with_reducible assumption)) | exact ne_lt (And.left (And.right (by with_reducible assumption))) | exact ne_lt (And.right (by with_reducible assumption)) | exact ne_lt (And.right (And.right (by with_reducible assumption))))); (k_with "exec While" => refine holdW ?_); (k_with "call ref" => refine hold67 ?_); k_steps; repeat' ((first | (k_dflt (refine' Tell.useE (isFigure _ _ _) ?B ?F ?N ?XB ?TB ?hk ?hd ?hu ?hp ?_); (case B => k_asm); (case F => k_asm); (case N => k_asm); (case XB => k_asm); (case TB => k_asm); (case hk => exact rfl); (case hd => first | exact roomD (by assumption) (by decide) | ((try dsimp only [ctx] at *); omega)); (case hu => first | exact roomC (by assumption) (by decide) | exact roomU (by assumption) (by decide) | ((try dsimp only [ctx] at *); omega)); (case hp => first | trivial | assumption);  k_whole; intro h9 tk9 F9 N9; (try k_sweep); (try dsimp only))); k_steps))
  unfold WHold
  refine while_rule (ι := Nat × Tok) (fun i s => ∃ h tk, s = ⟨h, gs, dr, tk, os⟩ ∧ Fr g L' h (fun y => List.lookup y [("at", .int i.1 i.2), ("row", .str row tr)]) ∧ News g L' h [] ∧ runE isBlk row.cps.toList i.1 = runE isBlk row.cps.toList a) (fun i => row.length - i.1) ?hE ?turn (a, ta) _ ⟨_, _, rfl, ?F, N', rfl⟩
  case hE => with_unfolding_all passes_own
  case F => exact F'
  case turn =>
    rintro ⟨b, tb⟩ s ⟨h, tk, rfl, F1, N1, e1⟩
    clear F' N'
    dsimp only at F1 e1 ⊢
    (k_steps; repeat' ((first | (k_dflt (refine' Tell.useE (isFigure _ _ _) ?B ?F ?N ?XB ?TB ?hk ?hd ?hu ?hp ?_); (case B => k_asm); (case F => k_asm); (case N => k_asm); (case XB => k_asm); (case TB => k_asm); (case hk => exact rfl); (case hd => first | exact roomD (by assumption) (by decide) | ((try dsimp only [ctx] at *); omega)); (case hu => first | exact roomC (by assumption) (by decide) | exact roomU (by assumption) (by decide) | ((try dsimp only [ctx] at *); omega)); (case hp => first | trivial | assumption);  k_whole; intro h9 tk9 F9 N9; (try k_sweep); (try dsimp only))); k_steps))
    · obtain ⟨c, hc, ei⟩ := item_one (row := row) (b := b) (by assumption)
      have hf : (Builtin.Str.occurrences (Str.ofString " \t") (Txt.item row b) 0 (Str.ofString " \t").length 1).isEmpty = true := by assumption
      rw [ei, isBlk_one, Bool.not_eq_true'] at hf
      ((try dsimp only); (try (first | k_unfold | dsimp only [qk])); (try dsimp only); unfold LeaveP; dsimp only; refine ret _ _ _ (Fr.keep (by k_asm)) ?_; try dsimp only)
      refine ⟨_, by rw [← e1, runE_stop hc hf]⟩
    · obtain ⟨c, hc, ei⟩ := item_one (row := row) (b := b) (by assumption)
      have hf : (Builtin.Str.occurrences (Str.ofString " \t") (Txt.item row b) 0 (Str.ofString " \t").length 1).isEmpty = false := by assumption
      rw [ei, isBlk_one, Bool.not_eq_false'] at hf
      dsimp only
      unfold TEnd
      refine ⟨(b + 1, _), by dsimp only; omega, _, _, rfl, Fr_eq (by k_asm) (loc_set _ _ _), by k_asm, (runE_step hc hf).trans e1⟩
    · ((try dsimp only); (try (first | k_unfold | dsimp only [qk])); (try dsimp only); unfold LeaveP; dsimp only; refine ret _ _ _ (Fr.keep (by k_asm)) ?_; try dsimp only)
      refine ⟨_, by rw [← e1, runE_out (by rw [row_len]; omega)]⟩
end Mine
/-! T3 -/
namespace Mine
theorem start_T3 : True := by
  w_top off
  trivial
/-- the signs of a power ahead of its figures -/
def sgn (u : List Nat) : Nat := if heads [43, 45] (u.drop 1) = true then 2 else 1
theorem powT_of {l : List Nat} {a j f : Nat} (hE : heads [69, 101] (l.drop a) = true) (hj : j = sgn (l.drop a)) (hf : runL isFig (l.drop (a + j)) = f) : powT (l.drop a) = if 3 < f then none else some (if 0 < f then j + f else 0) := by
  subst hf hj
  unfold powT
  rw [if_pos hE, ← List.drop_drop]
  rfl



theorem powerEnd (w : World) (row : Str) (tr : Tok) (i : Int) (ta : Tok) (hr : row.length ≤ 1000) (hi : 0 ≤ i) : Tell w 40 93 [.str row tr, .int i ta] (fun _ => True) (fun _ _ v => ∃ n tk, v = .int ((i.toNat + n : Nat) : Int) tk ∧ powT (row.cps.toList.drop i.toNat) = some n) (fun c v => c = "OV" ∧ ∃ tk, v = .int i tk ∧ powT (row.cps.toList.drop i.toNat) = none) := by
  obtain ⟨a, rfl⟩ := Int.eq_ofNat_of_zero_le hi
  rw [Int.toNat_natCast]
  clear hi
  unfold Tell
  intro mean mg mb dp un gd l base g gs dr tk os Q E B XB TB hd' hu hP ret rai
  revert XB; k_fill; intro XB
  have cLi := cLine_is
  have reci : recursionLimit = 1000 := rfl
  refine wpAny_call ?_
  k_dflt (refine' enterP (l0 := [("at", _), ("row", _)]) ?k1 ?k2 ?k3 ?k6 ?k7 ?k8 ?k9 ?kl ?kB ?_ ?c2 ?c3 ?c4 ?c5; (case k1 => exact B); (case k2 => exact XB); (case k3 => exact TB); (case k6 => k_is); (case k7 => k_is); (case k8 => exact roomZ hd'); (case k9 => exact BindsTo.of_eq rfl); (case kl => exact rfl); (case c5 => decide); (case kB => exact locs rfl); (case c2 => exact rfl); (case c3 => exact rfl); (case c4 => exact rfl); k_whole)
  intro L' h' tk0 F' N' X T
  dsimp only
  k_fold
  (k_with_none; (k_with "ne" => (first | exact ne_gt (by with_reducible assumption) | exact ne_lt (by with_reducible assumption) | with_reducible assumption | exact Ne.symm (by with_reducible assumption) | exact ne_gt (And.left (by with_reducible assumption)) | exact ne_gt (And.left (And.right (by with_reducible assumption))) | exact ne_gt (And.right (by with_reducible assumption)) | exact ne_gt (And.right (And.right (by with_reducible assumption))) | exact ne_lt (And.left (by with_reducible assumption)) | exact ne_lt (And.left (And.right (by with_reducible assumption))) | exact ne_lt (And.right (by with_reducible assumption)) | exact ne_lt (And.right (And.right (by with_reducible assumption))))); (k_with "call ref" => refine hold34 ?_); (k_with "exec Raise some none" => refine Raise_be rfl ?_); (k_with "call ref" => refine hold79 ?_); (k_with "exec Assign" => ((with_reducible show wpAny _ _ (exec (Stmt.Assign _ (PySem.Expr.IfExp _ _ _ _) _) _) _ _ _); (refine holdJ ?_))); k_steps; repeat' ((first | (k_dflt (refine' Tell.useT (figuresEnd _ _ _ _ _ ?q1 ?q2) ?B ?F ?N ?XB ?TB ?hk ?hd ?hu ?hp ?_); (case B => k_asm); (case F => k_asm); (case N => k_asm); (case XB => k_asm); (case TB => k_asm); (case hk => exact rfl); (case hd => first | exact roomD (by assumption) (by decide) | ((try dsimp only [ctx] at *); omega)); (case hu => first | exact roomC (by assumption) (by decide) | exact roomU (by assumption) (by decide) | ((try dsimp only [ctx] at *); omega)); (case hp => first | trivial | assumption); (case q1 => assumption); (case q2 => omega); k_whole; intro h9 tk9 t9 F9 N9; (try k_sweep); (try dsimp only)) | (unfold CHold; (k_dflt (refine' mkBE _ _ _ _ _ _ _ _ _ _ _ _ _ _ _ _ _ _ _ _ _ _ _ _ _ ?B ?F ?X ?N ?T ?hk ?hd ?hu ?_; (case B => k_asm); (case F => k_asm); (case X => k_asm); (case N => k_asm); (case T => k_asm); (case hk => exact rfl); (case hd => first | exact roomD (by assumption) (by decide) | ((try dsimp only [ctx] at *); omega)); (case hu => first | exact roomC (by assumption) (by decide) | exact roomU (by assumption) (by decide) | ((try dsimp only [ctx] at *); omega)); k_whole); intro x8 d8 t8 h8 k8 u8 v8 F8 N8 e8 n8; (try k_sweep); (try dsimp only)))); k_steps))
  · rename (_ = true) => hE
    rw [o_E, o_e, slice1, any2] at hE
    rename Fr _ _ _ _ => F0
    refine join_name (news := []) "begin" (fun z => ∃ j : Nat, z = ((a + j : Nat) : Int) ∧ j = sgn (row.cps.toList.drop a)) F0 ?_ ?_
    · refine wpAny_Assign_Name ?_
      (k_steps; repeat' ((first | (k_dflt (refine' Tell.useT (figuresEnd _ _ _ _ _ ?q1 ?q2) ?B ?F ?N ?XB ?TB ?hk ?hd ?hu ?hp ?_); (case B => k_asm); (case F => k_asm); (case N => k_asm); (case XB => k_asm); (case TB => k_asm); (case hk => exact rfl); (case hd => first | exact roomD (by assumption) (by decide) | ((try dsimp only [ctx] at *); omega)); (case hu => first | exact roomC (by assumption) (by decide) | exact roomU (by assumption) (by decide) | ((try dsimp only [ctx] at *); omega)); (case hp => first | trivial | assumption); (case q1 => assumption); (case q2 => omega); k_whole; intro h9 tk9 t9 F9 N9; (try k_sweep); (try dsimp only)) | (unfold CHold; (k_dflt (refine' mkBE _ _ _ _ _ _ _ _ _ _ _ _ _ _ _ _ _ _ _ _ _ _ _ _ _ ?B ?F ?X ?N ?T ?hk ?hd ?hu ?_; (case B => k_asm); (case F => k_asm); (case X => k_asm); (case N => k_asm); (case T => k_asm); (case hk => exact rfl); (case hd => first | exact roomD (by assumption) (by decide) | ((try dsimp only [ctx] at *); omega)); (case hu => first | exact roomC (by assumption) (by decide) | exact roomU (by assumption) (by decide) | ((try dsimp only [ctx] at *); omega)); k_whole); intro x8 d8 t8 h8 k8 u8 v8 F8 N8 e8 n8; (try k_sweep); (try dsimp only)))); k_steps))
      · rename (_ = true) => hs
        rw [o_plus, o_minus, slice2, any2] at hs
        refine join_new (by k_asm) (fun p hp => nomatch hp) ⟨2, rfl, ?_⟩
        rw [sgn, List.drop_drop, if_pos hs]
      · rename (_ = false) => hs
        rw [o_plus, o_minus, slice2, any2] at hs
        refine join_new (by k_asm) (fun p hp => nomatch hp) ⟨1, rfl, ?_⟩
        rw [sgn, List.drop_drop, hs]
        rfl
    · intro h tk tz z F1 N1 hz
      obtain ⟨j, rfl, hj⟩ := hz
      clear F0
      repeat (rename News _ _ _ (_ :: _) => zz; clear zz)
      (k_steps; repeat' ((first | (k_dflt (refine' Tell.useT (figuresEnd _ _ _ _ _ ?q1 ?q2) ?B ?F ?N ?XB ?TB ?hk ?hd ?hu ?hp ?_); (case B => k_asm); (case F => k_asm); (case N => k_asm); (case XB => k_asm); (case TB => k_asm); (case hk => exact rfl); (case hd => first | exact roomD (by assumption) (by decide) | ((try dsimp only [ctx] at *); omega)); (case hu => first | exact roomC (by assumption) (by decide) | exact roomU (by assumption) (by decide) | ((try dsimp only [ctx] at *); omega)); (case hp => first | trivial | assumption); (case q1 => assumption); (case q2 => omega); k_whole; intro h9 tk9 t9 F9 N9; (try k_sweep); (try dsimp only)) | (unfold CHold; (k_dflt (refine' mkBE _ _ _ _ _ _ _ _ _ _ _ _ _ _ _ _ _ _ _ _ _ _ _ _ _ ?B ?F ?X ?N ?T ?hk ?hd ?hu ?_; (case B => k_asm); (case F => k_asm); (case X => k_asm); (case N => k_asm); (case T => k_asm); (case hk => exact rfl); (case hd => first | exact roomD (by assumption) (by decide) | ((try dsimp only [ctx] at *); omega)); (case hu => first | exact roomC (by assumption) (by decide) | exact roomU (by assumption) (by decide) | ((try dsimp only [ctx] at *); omega)); k_whole); intro x8 d8 t8 h8 k8 u8 v8 F8 N8 e8 n8; (try k_sweep); (try dsimp only)))); k_steps))
      all_goals (generalize hf : runL isFig (row.cps.toList.drop (a + j)) = f; have hp := powT_of hE hj hf; have e0 : runE isFig row.cps.toList (((a + j : Nat) : Int)).toNat = a + j + f := by rw [Int.toNat_natCast, runE, hf])
      · (refine ⟨_, _, _, rfl, X.keeps (Fr.keep (by k_asm)), News.get (by k_asm) (.tail _ (.head _)), ?_⟩; (try k_unfold); (try dsimp only); refine leave_made B (by k_asm) (by k_asm) (by assumption) fun hh1 fl1 sm1 => ?_; refine rai _ _ _ _ _ ?_ fl1 sm1)
        exact ⟨rfl, ta, rfl, by rw [hp, if_pos (by omega)]⟩
      · ((try dsimp only); (try (first | k_unfold | dsimp only [qk])); (try dsimp only); unfold LeaveP; dsimp only; refine ret _ _ _ (Fr.keep (by k_asm)) ?_; try dsimp only)
        exact ⟨j + f, _, by rw [e0, Nat.add_assoc], by rw [hp, if_neg (by omega), if_pos (by omega)]⟩
      · ((try dsimp only); (try (first | k_unfold | dsimp only [qk])); (try dsimp only); unfold LeaveP; dsimp only; refine ret _ _ _ (Fr.keep (by k_asm)) ?_; try dsimp only)
        exact ⟨0, _, rfl, by rw [hp, if_neg (by omega), if_neg (by omega)]⟩
  · rename (_ = false) => hE
    rw [o_E, o_e, slice1, any2] at hE
    ((try dsimp only); (try (first | k_unfold | dsimp only [qk])); (try dsimp only); unfold LeaveP; dsimp only; refine ret _ _ _ (Fr.keep (by k_asm)) ?_; try dsimp only)
    exact ⟨0, _, rfl, by rw [powT, hE]; rfl⟩
end Mine
/-! T4 -/
namespace Mine
theorem start_T4 : True := by
  w_top off
  trivial
def CompHold (P : Prop) : Prop := P
theorem holdC {P : Prop} (h : CompHold P) : P := h

theorem sum_signs (x : Str) : ((signs x).map (·.length)).sum = x.length := by
  have all : ∀ l : List Nat, ((l.map fun c => (⟨#[c]⟩ : Str)).map (·.length)).sum = l.length := by
    intro l
    induction l with
    | nil => rfl
    | cons c r ih => rw [List.map_cons, List.map_cons, List.sum_cons, ih, List.length_cons]; show 1 + r.length = _; omega
  have := all x.cps.toList
  rw [row_len] at this
  exact this
theorem capitalE (w : World) (x : Str) (tx : Tok) (hr : x.length ≤ 1000) (hl : Low x) : Tell w 10 72 [.str x tx] (fun _ => True) (fun _ _ v => ∃ tk, v = .str x tk) (fun _ _ => False) := by
  unfold Tell
  intro mean mg mb dp un gd l base g gs dr tk os Q E B XB TB hd' hu hP ret rai
  revert XB; k_fill; intro XB
  have cLi := cLine_is
  have reci : recursionLimit = 1000 := rfl
  refine wpAny_call ?_
  k_dflt (refine' enterP (l0 := [("text", _)]) ?k1 ?k2 ?k3 ?k6 ?k7 ?k8 ?k9 ?kl ?kB ?_ ?c2 ?c3 ?c4 ?c5; (case k1 => exact B); (case k2 => exact XB); (case k3 => exact TB); (case k6 => k_is); (case k7 => k_is); (case k8 => exact roomZ hd'); (case k9 => exact BindsTo.of_eq rfl); (case kl => exact rfl); (case c5 => decide); (case kB => exact locs rfl); (case c2 => exact rfl); (case c3 => exact rfl); (case c4 => exact rfl); k_whole)
  intro L' h' tk0 F' N' X T
  dsimp only
  k_fold
  (k_with_none; (k_with "ne" => (first | exact ne_gt (by with_reducible assumption) | exact ne_lt (by with_reducible assumption) | with_reducible assumption | exact Ne.symm (by with_reducible assumption) | exact ne_gt (And.left (by with_reducible assumption)) | exact ne_gt (And.left (And.right (by with_reducible assumption))) | exact ne_gt (And.right (by with_reducible assumption)) | exact ne_gt (And.right (And.right (by with_reducible assumption))) | exact ne_lt (And.left (by with_reducible assumption)) | exact ne_lt (And.left (And.right (by with_reducible assumption))) | exact ne_lt (And.right (by with_reducible assumption)) | exact ne_lt (And.right (And.right (by with_reducible assumption))))); (k_with "eval ListComp" => refine holdC ?_); k_steps)
  unfold CompHold
  refine ListComp_S (h₀ := g) (L := L') (m := fun y => List.lookup y [("text", .str x tx)]) (by with_unfolding_all rfl) (by decide) (by rfl) (by decide) (by rfl) ?_
  k_steps
  unfold WHold
  refine ⟨_, _, [], rfl, rfl, F', N', ?_, ?_⟩
  · rw [sizeLine_eq]; have : x.length = x.cps.size := rfl; omega
  rintro s₂ ⟨h, rfl⟩
  refine rest_S (fun c => c) ?_ ?_
  · intro c u I oI C oC D m₂ ys h tk E' hc hC hx F N off ne
    clear F' N'
    k_steps
    exfalso
    have h1 := hl c hc
    have h2 : ¬ ({ cps := #[c] } : Str).cps.toList < (Str.ofString "a").cps.toList := by assumption
    have h3 : ¬ (Str.ofString "z").cps.toList < ({ cps := #[c] } : Str).cps.toList := by assumption
    simp only [sa, sz, sgl] at h2 h3
    omega
  · intro ys hy
    intro D h tk F N o1
    clear F' N'
    have e0 : x.cps.toList.map (fun c => (⟨#[c]⟩ : Str)) = signs x := rfl
    rw [e0] at hy
    k_steps
    refine join_list (items := ys.toArray) (ys := signs x) ⟨_, N.get (.head _), rfl, _, rfl⟩ (by simpa using hy) ?_ ?_
    · have e1 := sum_signs x
      rw [e1]
      have : (Str.ofString "").length = 0 := by decide +kernel
      rw [this]; omega
    intro t' k
    have e2 : Txt.join (Str.ofString "") (signs x) = x := by
      unfold Txt.join
      rw [StrLaws.glued_eq_join, show Str.ofString "" = ⟨#[]⟩ by decide +kernel, join_nil_signs]
    rw [e2]
    k_steps
    ((try dsimp only); (try (first | k_unfold | dsimp only [qk])); (try dsimp only); unfold LeaveP; dsimp only; refine ret _ _ _ (Fr.keep (by k_asm)) ?_; try dsimp only)
    exact ⟨_, rfl⟩
end Mine
/-! T5 -/
namespace Mine
theorem start_T5 : True := by
  w_top off
  trivial
local macro_rules | `(tactic| k_room) => `(tactic| first | k_extra "room" | ((try dsimp only [Around.deeper, Around.mark, Around.in1]); omega))
theorem isWordE (w : World) (x : Str) (tx : Tok) (hr : x.length ≤ 1000) : Tell w 20 53 [.str x tx] (fun _ => True) (fun _ _ v => ∃ b, v = .bool b) (fun _ _ => False) := by
  unfold Tell
  intro mean mg mb dp un gd l base g gs dr tk os Q E B XB TB hd' hu hP ret rai
  revert XB; k_fill; intro XB
  have cLi := cLine_is
  have reci : recursionLimit = 1000 := rfl
  refine wpAny_call ?_
  k_dflt (refine' enterP (l0 := [("told", _)]) ?k1 ?k2 ?k3 ?k6 ?k7 ?k8 ?k9 ?kl ?kB ?_ ?c2 ?c3 ?c4 ?c5; (case k1 => exact B); (case k2 => exact XB); (case k3 => exact TB); (case k6 => k_is); (case k7 => k_is); (case k8 => exact roomZ hd'); (case k9 => exact BindsTo.of_eq rfl); (case kl => exact rfl); (case c5 => decide); (case kB => exact locs rfl); (case c2 => exact rfl); (case c3 => exact rfl); (case c4 => exact rfl); k_whole)
  intro L' h' tk0 F' N' X T
  dsimp only
  k_fold
  (k_with_none; (k_with "ne" => (first | exact ne_gt (by with_reducible assumption) | exact ne_lt (by with_reducible assumption) | with_reducible assumption | exact Ne.symm (by with_reducible assumption) | exact ne_gt (And.left (by with_reducible assumption)) | exact ne_gt (And.left (And.right (by with_reducible assumption))) | exact ne_gt (And.right (by with_reducible assumption)) | exact ne_gt (And.right (And.right (by with_reducible assumption))) | exact ne_lt (And.left (by with_reducible assumption)) | exact ne_lt (And.left (And.right (by with_reducible assumption))) | exact ne_lt (And.right (by with_reducible assumption)) | exact ne_lt (And.right (And.right (by with_reducible assumption))))); (k_with "room" => (first | exact roomD (by assumption) (by decide) | exact roomD (by assumption) (Nat.le_of_ble_eq_true rfl) | exact roomC (by assumption) (by decide))); k_steps)
  all_goals ((try dsimp only); (try (first | k_unfold | dsimp only [qk])); (try dsimp only); unfold LeaveP; dsimp only; refine ret _ _ _ (Fr.keep (by k_asm)) ?_; try dsimp only)
  all_goals exact ⟨_, rfl⟩
end Mine
/-! T6 -/
namespace Mine
theorem start_T6 : True := by
  w_top off
  trivial



theorem nameEnd (w : World) (row : Str) (tr : Tok) (i : Int) (ta : Tok) (hr : row.length ≤ 1000) (hi : 0 ≤ i) : Tell w 10 107 [.str row tr, .int i ta] (fun _ => True) (fun _ _ v => ∃ tk, v = .int (nameE row.cps.toList i.toNat) tk) (fun _ _ => False) := by
  obtain ⟨a, rfl⟩ := Int.eq_ofNat_of_zero_le hi
  rw [Int.toNat_natCast]
  clear hi
  unfold Tell
  intro mean mg mb dp un gd l base g gs dr tk os Q E B XB TB hd' hu hP ret rai
  revert XB; k_fill; intro XB
  have cLi := cLine_is
  have reci : recursionLimit = 1000 := rfl
  refine wpAny_call ?_
  k_dflt (refine' enterP (l0 := [("at", _), ("row", _)]) ?k1 ?k2 ?k3 ?k6 ?k7 ?k8 ?k9 ?kl ?kB ?_ ?c2 ?c3 ?c4 ?c5; (case k1 => exact B); (case k2 => exact XB); (case k3 => exact TB); (case k6 => k_is); (case k7 => k_is); (case k8 => exact roomZ hd'); (case k9 => exact BindsTo.of_eq rfl); (case kl => exact rfl); (case c5 => decide); (case kB => exact locs rfl); (case c2 => exact rfl); (case c3 => exact rfl); (case c4 => exact rfl); k_whole)
  intro L' h' tk0 F' N' X T
  dsimp only
  k_fold
  (k_with_none; (k_with "ne" => (first | exact ne_gt (by with_reducible assumption) | exact ne_lt (by with_reducible assumption) | with_reducible assumption | exact Ne.symm (by with_reducible assumption) | exact ne_gt (And.left (by with_reducible assumption)) | exact ne_gt (And.left (And.right (by with_reducible assumption))) | exact ne_gt (And.right (by with_reducible assumption)) | exact ne_gt (And.right (And.right (by with_reducible assumption))) | exact ne_lt (And.left (by with_reducible assumption)) | exact ne_lt (And.left (And.right (by with_reducible assumption))) | exact ne_lt (And.right (by with_reducible assumption)) | exact ne_lt (And.right (And.right (by with_reducible assumption))))); (k_with "exec While" => refine holdW ?_); (k_with "call ref" => refine hold67 ?_); (k_with "call ref" => refine hold60 ?_); k_steps; repeat' ((first | (k_dflt (refine' Tell.useE (isLetter _ _ _) ?B ?F ?N ?XB ?TB ?hk ?hd ?hu ?hp ?_); (case B => k_asm); (case F => k_asm); (case N => k_asm); (case XB => k_asm); (case TB => k_asm); (case hk => exact rfl); (case hd => first | exact roomD (by assumption) (by decide) | ((try dsimp only [ctx] at *); omega)); (case hu => first | exact roomC (by assumption) (by decide) | exact roomU (by assumption) (by decide) | ((try dsimp only [ctx] at *); omega)); (case hp => first | trivial | assumption);  k_whole; intro h9 tk9 F9 N9; (try k_sweep); (try dsimp only)) | (k_dflt (refine' Tell.useE (isFigure _ _ _) ?B ?F ?N ?XB ?TB ?hk ?hd ?hu ?hp ?_); (case B => k_asm); (case F => k_asm); (case N => k_asm); (case XB => k_asm); (case TB => k_asm); (case hk => exact rfl); (case hd => first | exact roomD (by assumption) (by decide) | ((try dsimp only [ctx] at *); omega)); (case hu => first | exact roomC (by assumption) (by decide) | exact roomU (by assumption) (by decide) | ((try dsimp only [ctx] at *); omega)); (case hp => first | trivial | assumption);  k_whole; intro h9 tk9 F9 N9; (try k_sweep); (try dsimp only))); k_steps))
  unfold WHold
  rename Fr _ _ _ _ => F0
  rename News _ _ _ _ => N0
  show JHold (wpAny _ _ _ _ _ _)
  refine join_rule (fun s => ∃ h tk tb, s = ⟨h, gs, dr, tk, os⟩ ∧ Fr g L' h (fun y => List.lookup y [("at", .int (runE isName row.cps.toList a : Nat) tb), ("row", .str row tr)]) ∧ News g L' h []) ?_ ?_
  · refine while_rule (ι := Nat × Tok) (fun i s => ∃ h tk, s = ⟨h, gs, dr, tk, os⟩ ∧ Fr g L' h (fun y => List.lookup y [("at", .int i.1 i.2), ("row", .str row tr)]) ∧ News g L' h [] ∧ runE isName row.cps.toList i.1 = runE isName row.cps.toList a) (fun i => row.length - i.1) ?hE ?turn (a, ta) _ ⟨_, _, rfl, F0, N0, rfl⟩
    case hE => with_unfolding_all passes_own
    case turn =>
      rintro ⟨b, tb⟩ s ⟨h, tk, rfl, F1, N1, e1⟩
      clear F0 N0
      dsimp only at F1 e1 ⊢
      (k_steps; repeat' ((first | (k_dflt (refine' Tell.useE (isLetter _ _ _) ?B ?F ?N ?XB ?TB ?hk ?hd ?hu ?hp ?_); (case B => k_asm); (case F => k_asm); (case N => k_asm); (case XB => k_asm); (case TB => k_asm); (case hk => exact rfl); (case hd => first | exact roomD (by assumption) (by decide) | ((try dsimp only [ctx] at *); omega)); (case hu => first | exact roomC (by assumption) (by decide) | exact roomU (by assumption) (by decide) | ((try dsimp only [ctx] at *); omega)); (case hp => first | trivial | assumption);  k_whole; intro h9 tk9 F9 N9; (try k_sweep); (try dsimp only)) | (k_dflt (refine' Tell.useE (isFigure _ _ _) ?B ?F ?N ?XB ?TB ?hk ?hd ?hu ?hp ?_); (case B => k_asm); (case F => k_asm); (case N => k_asm); (case XB => k_asm); (case TB => k_asm); (case hk => exact rfl); (case hd => first | exact roomD (by assumption) (by decide) | ((try dsimp only [ctx] at *); omega)); (case hu => first | exact roomC (by assumption) (by decide) | exact roomU (by assumption) (by decide) | ((try dsimp only [ctx] at *); omega)); (case hp => first | trivial | assumption);  k_whole; intro h9 tk9 F9 N9; (try k_sweep); (try dsimp only))); k_steps))
      iterate 3
        rotate_left 0
        · obtain ⟨c, hc, ei⟩ := item_one (row := row) (b := b) (by assumption)
          unfold TEnd
          refine ⟨(b + 1, _), by dsimp only; omega, _, _, rfl, Fr_eq (by k_asm) (loc_set _ _ _), by k_asm, (runE_step hc ?_).trans e1⟩
          first
            | (rename isLet1 _ = true => H; rw [ei, isLet1_one] at H; simp only [isName, H, Bool.true_or]; done)
            | (rename isFig1 _ = true => H; rw [ei, isFig1_one] at H; simp only [isName, H, Bool.true_or, Bool.or_true]; done)
            | (rename (_ == _) = true => H; rw [ei, o_dot, str_one_eq, decide_eq_true_eq] at H; rw [← H]; rfl)
      · obtain ⟨c, hc, ei⟩ := item_one (row := row) (b := b) (by assumption)
        rename isLet1 _ = false => H1
        rename isFig1 _ = false => H2
        rename (_ == _) = false => H3
        rw [ei, isLet1_one] at H1
        rw [ei, isFig1_one] at H2
        rw [ei, o_dot, str_one_eq] at H3
        have H4 : decide (c = 46) = false := decide_eq_false (fun q => of_decide_eq_false H3 q.symm)
        have hs := runE_stop (p := isName) hc (by simp only [isName, H1, H2, H4, Bool.or_false])
        rw [← e1, hs]
        exact ⟨rfl, _, _, _, rfl, by k_asm, by k_asm⟩
      · have hs := runE_out (p := isName) (l := row.cps.toList) (b := b) (by rw [row_len]; omega)
        rw [← e1, hs]
        exact ⟨rfl, _, _, _, rfl, by k_asm, by k_asm⟩
  · rintro s ⟨h, tk, tb, rfl, F1, N1⟩
    clear F0 N0
    have hq : nameE row.cps.toList a = if heads [37, 36, 33] (row.cps.toList.drop (runE isName row.cps.toList a)) = true then runE isName row.cps.toList a + 1 else runE isName row.cps.toList a := rfl
    generalize runE isName row.cps.toList a = b at F1 hq
    (k_steps; repeat' ((first | (k_dflt (refine' Tell.useE (isLetter _ _ _) ?B ?F ?N ?XB ?TB ?hk ?hd ?hu ?hp ?_); (case B => k_asm); (case F => k_asm); (case N => k_asm); (case XB => k_asm); (case TB => k_asm); (case hk => exact rfl); (case hd => first | exact roomD (by assumption) (by decide) | ((try dsimp only [ctx] at *); omega)); (case hu => first | exact roomC (by assumption) (by decide) | exact roomU (by assumption) (by decide) | ((try dsimp only [ctx] at *); omega)); (case hp => first | trivial | assumption);  k_whole; intro h9 tk9 F9 N9; (try k_sweep); (try dsimp only)) | (k_dflt (refine' Tell.useE (isFigure _ _ _) ?B ?F ?N ?XB ?TB ?hk ?hd ?hu ?hp ?_); (case B => k_asm); (case F => k_asm); (case N => k_asm); (case XB => k_asm); (case TB => k_asm); (case hk => exact rfl); (case hd => first | exact roomD (by assumption) (by decide) | ((try dsimp only [ctx] at *); omega)); (case hu => first | exact roomC (by assumption) (by decide) | exact roomU (by assumption) (by decide) | ((try dsimp only [ctx] at *); omega)); (case hp => first | trivial | assumption);  k_whole; intro h9 tk9 F9 N9; (try k_sweep); (try dsimp only))); k_steps))
    · rename (List.any _ _) = true => hA
      rw [o_cent, o_doll, o_bang, slice1, any3] at hA
      ((try dsimp only); (try (first | k_unfold | dsimp only [qk])); (try dsimp only); unfold LeaveP; dsimp only; refine ret _ _ _ (Fr.keep (by k_asm)) ?_; try dsimp only)
      exact ⟨_, by rw [hq, if_pos hA]; rfl⟩
    · rename (List.any _ _) = true => hA
      rename (_ != _) = false => hB
      rw [o_cent, o_doll, o_bang, slice1, any3] at hA
      rw [slice1, o_nil, one_ne, heads_ne hA] at hB
      cases hB
    · rename (List.any _ _) = false => hA
      rw [o_cent, o_doll, o_bang, slice1, any3] at hA
      ((try dsimp only); (try (first | k_unfold | dsimp only [qk])); (try dsimp only); unfold LeaveP; dsimp only; refine ret _ _ _ (Fr.keep (by k_asm)) ?_; try dsimp only)
      exact ⟨_, by rw [hq, hA]; rfl⟩
end Mine
/-! T7 -/
namespace Mine
theorem start_T7 : True := by
  w_top off
  trivial






/-- the signs of a number ahead of its power -/
def manL (t : List Nat) : Nat := if heads [46] (t.drop (runL isFig t)) = true then runL isFig t + 1 + runL isFig (t.drop (runL isFig t + 1)) else runL isFig t
theorem numT_man (t : List Nat) : numT t = if 40 < manL t then .error 0 else match powT (t.drop (manL t)) with
    | none => .error (manL t)
    | some k => .ok (manL t + k) := rfl
set_option maxHeartbeats 40000000 in
theorem numberAt (w : World) (row : Str) (tr : Tok) (i : Int) (ta : Tok) (hr : row.length ≤ 1000) (hlow : Low row) (hi : 0 ≤ i) : Tell w 50 100 [.str row tr, .int i ta] (fun _ => True)
    (fun g h' v => ∃ k z tk, (z = i + (k : Nat) ∨ (z = i + (k : Nat) + 1 ∧ heads [33, 37] (row.cps.toList.drop (i.toNat + k)) = true)) ∧ numT (row.cps.toList.drop i.toNat) = .ok k ∧ ∃ ad x, v = .ref ad ∧ g.get? ad = none ∧ h'.get? ad = some { cls := .type "tuple", data := .seq #[x, .int z tk] })
    (fun c v => c = "OV" ∧ ∃ n tk, v = .int ((i.toNat + n : Nat) : Int) tk ∧ numT (row.cps.toList.drop i.toNat) = .error n) := by
  obtain ⟨a, rfl⟩ := Int.eq_ofNat_of_zero_le hi
  rw [Int.toNat_natCast]
  clear hi
  unfold Tell
  intro mean mg mb dp un gd l base g gs dr tk os Q E B XB TB hd' hu hP ret rai
  revert XB; k_fill; intro XB
  have cLi := cLine_is
  have reci : recursionLimit = 1000 := rfl
  refine wpAny_call ?_
  k_dflt (refine' enterP (l0 := [("at", _), ("row", _)]) ?k1 ?k2 ?k3 ?k6 ?k7 ?k8 ?k9 ?kl ?kB ?_ ?c2 ?c3 ?c4 ?c5; (case k1 => exact B); (case k2 => exact XB); (case k3 => exact TB); (case k6 => k_is); (case k7 => k_is); (case k8 => exact roomZ hd'); (case k9 => exact BindsTo.of_eq rfl); (case kl => exact rfl); (case c5 => decide); (case kB => exact locs rfl); (case c2 => exact rfl); (case c3 => exact rfl); (case c4 => exact rfl); k_whole)
  intro L' h' tk0 F' N' X T
  dsimp only
  k_fold
  (k_with_none; (k_with "ne" => (first | exact ne_gt (by with_reducible assumption) | exact ne_lt (by with_reducible assumption) | with_reducible assumption | exact Ne.symm (by with_reducible assumption) | exact ne_gt (And.left (by with_reducible assumption)) | exact ne_gt (And.left (And.right (by with_reducible assumption))) | exact ne_gt (And.right (by with_reducible assumption)) | exact ne_gt (And.right (And.right (by with_reducible assumption))) | exact ne_lt (And.left (by with_reducible assumption)) | exact ne_lt (And.left (And.right (by with_reducible assumption))) | exact ne_lt (And.right (by with_reducible assumption)) | exact ne_lt (And.right (And.right (by with_reducible assumption))))); (k_with "call ref" => refine hold34 ?_); (k_with "exec Raise some none" => refine Raise_be rfl ?_); (k_with "call builtin:str.find" => (refine find4 ?_; intro k6)); (k_with "call ref" => refine hold79 ?_); (k_with "call ref" => refine hold93 ?_); (k_with "call ref" => refine hold72 ?_); (k_with "exec If" => ((first | (with_reducible show wpAny _ _ (exec (Stmt.If _ [Stmt.Assign _ _ _] _ _) _) _ _ _) | (with_reducible show wpAny _ _ (exec (Stmt.If _ [Stmt.AugAssign _ _ _ _] _ _) _) _ _ _)); (refine holdJ ?_))); k_steps; repeat' ((first | (k_dflt (refine' Tell.useT (capitalE _ _ _ ?q1 ?q2) ?B ?F ?N ?XB ?TB ?hk ?hd ?hu ?hp ?_); (case B => k_asm); (case F => k_asm); (case N => k_asm); (case XB => k_asm); (case TB => k_asm); (case hk => exact rfl); (case hd => first | exact roomD (by assumption) (by decide) | ((try dsimp only [ctx] at *); omega)); (case hu => first | exact roomC (by assumption) (by decide) | exact roomU (by assumption) (by decide) | ((try dsimp only [ctx] at *); omega)); (case hp => first | trivial | assumption); (case q1 => exact Nat.le_trans (Txt.slice_le _ _ _) (by assumption)); (case q2 => exact low_slice (by assumption)); k_whole; intro h9 tk9 t9 F9 N9; (try k_sweep); (try dsimp only)) | (unfold CHold; (k_dflt (refine' Tell.use (powerEnd _ _ _ _ _ ?q1 ?q2) ?B ?F ?N ?XB ?TB ?hk ?hd ?hu ?hp ?_ ?_); (case B => k_asm); (case F => k_asm); (case N => k_asm); (case XB => k_asm); (case TB => k_asm); (case hk => exact rfl); (case hd => first | exact roomD (by assumption) (by decide) | ((try dsimp only [ctx] at *); omega)); (case hu => first | exact roomC (by assumption) (by decide) | exact roomU (by assumption) (by decide) | ((try dsimp only [ctx] at *); omega)); (case hp => first | trivial | assumption); (case q1 => assumption); (case q2 => omega); (rotate_left 1; intro e7 h7 k7 c7 v7 x7 fl7 sm7; (try k_unfold); (try dsimp only); refine leave_fly (by k_asm) (by k_asm) fl7 sm7 ?_; refine holdR ?_; rotate_right 1); k_whole; intro v9 h9 tk9 st9 F9 N9 r9; (try dsimp only at r9); (first | subst r9 | (obtain ⟨t9, r9⟩ := r9; subst r9) | (obtain ⟨n9, t9, r9, e9⟩ := r9; subst r9) | skip); (try k_sweep); (try dsimp only))) | (k_dflt (refine' Tell.useT (figuresEnd _ _ _ _ _ ?q1 ?q2) ?B ?F ?N ?XB ?TB ?hk ?hd ?hu ?hp ?_); (case B => k_asm); (case F => k_asm); (case N => k_asm); (case XB => k_asm); (case TB => k_asm); (case hk => exact rfl); (case hd => first | exact roomD (by assumption) (by decide) | ((try dsimp only [ctx] at *); omega)); (case hu => first | exact roomC (by assumption) (by decide) | exact roomU (by assumption) (by decide) | ((try dsimp only [ctx] at *); omega)); (case hp => first | trivial | assumption); (case q1 => assumption); (case q2 => omega); k_whole; intro h9 tk9 t9 F9 N9; (try k_sweep); (try dsimp only)) | (unfold CHold; (k_dflt (refine' mkBE _ _ _ _ _ _ _ _ _ _ _ _ _ _ _ _ _ _ _ _ _ _ _ _ _ ?B ?F ?X ?N ?T ?hk ?hd ?hu ?_; (case B => k_asm); (case F => k_asm); (case X => k_asm); (case N => k_asm); (case T => k_asm); (case hk => exact rfl); (case hd => first | exact roomD (by assumption) (by decide) | ((try dsimp only [ctx] at *); omega)); (case hu => first | exact roomC (by assumption) (by decide) | exact roomU (by assumption) (by decide) | ((try dsimp only [ctx] at *); omega)); k_whole); intro x8 d8 t8 h8 k8 u8 v8 F8 N8 e8 n8; (try k_sweep); (try dsimp only)))); k_steps))
  rename Fr _ _ _ _ => F0
  rename News _ _ _ _ => N0
  refine join_rule (fun s => ∃ h tk te z n, s = ⟨h, gs, dr, tk, os⟩ ∧ Fr g L' h (fun y => if y = "end" then some (.int z te) else List.lookup y [("at", .int a ta), ("row", .str row tr)]) ∧ News g L' h [] ∧ z = ((a + n : Nat) : Int) ∧ n = manL (row.cps.toList.drop a)) ?_ ?_
  · refine wpAny_If ?_
    (k_steps; repeat' ((first | (k_dflt (refine' Tell.useT (capitalE _ _ _ ?q1 ?q2) ?B ?F ?N ?XB ?TB ?hk ?hd ?hu ?hp ?_); (case B => k_asm); (case F => k_asm); (case N => k_asm); (case XB => k_asm); (case TB => k_asm); (case hk => exact rfl); (case hd => first | exact roomD (by assumption) (by decide) | ((try dsimp only [ctx] at *); omega)); (case hu => first | exact roomC (by assumption) (by decide) | exact roomU (by assumption) (by decide) | ((try dsimp only [ctx] at *); omega)); (case hp => first | trivial | assumption); (case q1 => exact Nat.le_trans (Txt.slice_le _ _ _) (by assumption)); (case q2 => exact low_slice (by assumption)); k_whole; intro h9 tk9 t9 F9 N9; (try k_sweep); (try dsimp only)) | (unfold CHold; (k_dflt (refine' Tell.use (powerEnd _ _ _ _ _ ?q1 ?q2) ?B ?F ?N ?XB ?TB ?hk ?hd ?hu ?hp ?_ ?_); (case B => k_asm); (case F => k_asm); (case N => k_asm); (case XB => k_asm); (case TB => k_asm); (case hk => exact rfl); (case hd => first | exact roomD (by assumption) (by decide) | ((try dsimp only [ctx] at *); omega)); (case hu => first | exact roomC (by assumption) (by decide) | exact roomU (by assumption) (by decide) | ((try dsimp only [ctx] at *); omega)); (case hp => first | trivial | assumption); (case q1 => assumption); (case q2 => omega); (rotate_left 1; intro e7 h7 k7 c7 v7 x7 fl7 sm7; (try k_unfold); (try dsimp only); refine leave_fly (by k_asm) (by k_asm) fl7 sm7 ?_; refine holdR ?_; rotate_right 1); k_whole; intro v9 h9 tk9 st9 F9 N9 r9; (try dsimp only at r9); (first | subst r9 | (obtain ⟨t9, r9⟩ := r9; subst r9) | (obtain ⟨n9, t9, r9, e9⟩ := r9; subst r9) | skip); (try k_sweep); (try dsimp only))) | (k_dflt (refine' Tell.useT (figuresEnd _ _ _ _ _ ?q1 ?q2) ?B ?F ?N ?XB ?TB ?hk ?hd ?hu ?hp ?_); (case B => k_asm); (case F => k_asm); (case N => k_asm); (case XB => k_asm); (case TB => k_asm); (case hk => exact rfl); (case hd => first | exact roomD (by assumption) (by decide) | ((try dsimp only [ctx] at *); omega)); (case hu => first | exact roomC (by assumption) (by decide) | exact roomU (by assumption) (by decide) | ((try dsimp only [ctx] at *); omega)); (case hp => first | trivial | assumption); (case q1 => assumption); (case q2 => omega); k_whole; intro h9 tk9 t9 F9 N9; (try k_sweep); (try dsimp only)) | (unfold CHold; (k_dflt (refine' mkBE _ _ _ _ _ _ _ _ _ _ _ _ _ _ _ _ _ _ _ _ _ _ _ _ _ ?B ?F ?X ?N ?T ?hk ?hd ?hu ?_; (case B => k_asm); (case F => k_asm); (case X => k_asm); (case N => k_asm); (case T => k_asm); (case hk => exact rfl); (case hd => first | exact roomD (by assumption) (by decide) | ((try dsimp only [ctx] at *); omega)); (case hu => first | exact roomC (by assumption) (by decide) | exact roomU (by assumption) (by decide) | ((try dsimp only [ctx] at *); omega)); k_whole); intro x8 d8 t8 h8 k8 u8 v8 F8 N8 e8 n8; (try k_sweep); (try dsimp only)))); k_steps))
    all_goals unfold JEnd
    · rename (_ == _) = true => D1
      simp only [Int.toNat_natCast, slice1, o_dot, one_eq, runE] at D1
      refine ⟨rfl, _, _, _, _, _, rfl, Fr_twice (by k_asm), by k_asm, ?_, rfl⟩
      simp only [Int.toNat_natCast, tN1, runE, manL, List.drop_drop, D1, if_true]
      simp only [← Nat.add_assoc]
    · rename (_ == _) = false => D1
      simp only [Int.toNat_natCast, slice1, o_dot, one_eq, runE] at D1
      refine ⟨rfl, _, _, _, _, _, rfl, by k_asm, by k_asm, ?_, rfl⟩
      simp only [Int.toNat_natCast, runE, manL, List.drop_drop, D1, Bool.false_eq_true, if_false]
  · rintro s ⟨h, tk, te, z, n, rfl, F1, N1, rfl, hn⟩
    clear F0 N0
    (k_steps; repeat' ((first | (k_dflt (refine' Tell.useT (capitalE _ _ _ ?q1 ?q2) ?B ?F ?N ?XB ?TB ?hk ?hd ?hu ?hp ?_); (case B => k_asm); (case F => k_asm); (case N => k_asm); (case XB => k_asm); (case TB => k_asm); (case hk => exact rfl); (case hd => first | exact roomD (by assumption) (by decide) | ((try dsimp only [ctx] at *); omega)); (case hu => first | exact roomC (by assumption) (by decide) | exact roomU (by assumption) (by decide) | ((try dsimp only [ctx] at *); omega)); (case hp => first | trivial | assumption); (case q1 => exact Nat.le_trans (Txt.slice_le _ _ _) (by assumption)); (case q2 => exact low_slice (by assumption)); k_whole; intro h9 tk9 t9 F9 N9; (try k_sweep); (try dsimp only)) | (unfold CHold; (k_dflt (refine' Tell.use (powerEnd _ _ _ _ _ ?q1 ?q2) ?B ?F ?N ?XB ?TB ?hk ?hd ?hu ?hp ?_ ?_); (case B => k_asm); (case F => k_asm); (case N => k_asm); (case XB => k_asm); (case TB => k_asm); (case hk => exact rfl); (case hd => first | exact roomD (by assumption) (by decide) | ((try dsimp only [ctx] at *); omega)); (case hu => first | exact roomC (by assumption) (by decide) | exact roomU (by assumption) (by decide) | ((try dsimp only [ctx] at *); omega)); (case hp => first | trivial | assumption); (case q1 => assumption); (case q2 => omega); (rotate_left 1; intro e7 h7 k7 c7 v7 x7 fl7 sm7; (try k_unfold); (try dsimp only); refine leave_fly (by k_asm) (by k_asm) fl7 sm7 ?_; refine holdR ?_; rotate_right 1); k_whole; intro v9 h9 tk9 st9 F9 N9 r9; (try dsimp only at r9); (first | subst r9 | (obtain ⟨t9, r9⟩ := r9; subst r9) | (obtain ⟨n9, t9, r9, e9⟩ := r9; subst r9) | skip); (try k_sweep); (try dsimp only))) | (k_dflt (refine' Tell.useT (figuresEnd _ _ _ _ _ ?q1 ?q2) ?B ?F ?N ?XB ?TB ?hk ?hd ?hu ?hp ?_); (case B => k_asm); (case F => k_asm); (case N => k_asm); (case XB => k_asm); (case TB => k_asm); (case hk => exact rfl); (case hd => first | exact roomD (by assumption) (by decide) | ((try dsimp only [ctx] at *); omega)); (case hu => first | exact roomC (by assumption) (by decide) | exact roomU (by assumption) (by decide) | ((try dsimp only [ctx] at *); omega)); (case hp => first | trivial | assumption); (case q1 => assumption); (case q2 => omega); k_whole; intro h9 tk9 t9 F9 N9; (try k_sweep); (try dsimp only)) | (unfold CHold; (k_dflt (refine' mkBE _ _ _ _ _ _ _ _ _ _ _ _ _ _ _ _ _ _ _ _ _ _ _ _ _ ?B ?F ?X ?N ?T ?hk ?hd ?hu ?_; (case B => k_asm); (case F => k_asm); (case X => k_asm); (case N => k_asm); (case T => k_asm); (case hk => exact rfl); (case hd => first | exact roomD (by assumption) (by decide) | ((try dsimp only [ctx] at *); omega)); (case hu => first | exact roomC (by assumption) (by decide) | exact roomU (by assumption) (by decide) | ((try dsimp only [ctx] at *); omega)); k_whole); intro x8 d8 t8 h8 k8 u8 v8 F8 N8 e8 n8; (try k_sweep); (try dsimp only)))); k_steps))
    · (refine ⟨_, _, _, rfl, X.keeps (Fr.keep (by k_asm)), News.get (by k_asm) (.tail _ (.head _)), ?_⟩; (try k_unfold); (try dsimp only); refine leave_made B (by k_asm) (by k_asm) (by assumption) fun hh1 fl1 sm1 => ?_; refine rai _ _ _ _ _ ?_ fl1 sm1)
      refine ⟨rfl, 0, ta, rfl, ?_⟩
      rw [numT_man, ← hn, if_pos (by omega)]
    · have hn40 : ¬ 40 < n := by omega
      rename powT _ = some _ => hp
      rw [Int.toNat_natCast] at hp
      have K : numT (row.cps.toList.drop a) = .ok (n + n9) := by rw [numT_man, ← hn, if_neg hn40, List.drop_drop, hp]
      rename Fr _ _ _ _ => F2
      rename News _ _ _ _ => N2
      refine join_name (news := []) "behind" (fun z => z = (a : Int) + ((n + n9 : Nat) : Int) ∨ (z = (a : Int) + ((n + n9 : Nat) : Int) + 1 ∧ heads [33, 37] (row.cps.toList.drop (a + (n + n9))) = true)) F2 ?_ ?_
      · refine wpAny_If ?_
        (k_steps; repeat' ((first | (k_dflt (refine' Tell.useT (capitalE _ _ _ ?q1 ?q2) ?B ?F ?N ?XB ?TB ?hk ?hd ?hu ?hp ?_); (case B => k_asm); (case F => k_asm); (case N => k_asm); (case XB => k_asm); (case TB => k_asm); (case hk => exact rfl); (case hd => first | exact roomD (by assumption) (by decide) | ((try dsimp only [ctx] at *); omega)); (case hu => first | exact roomC (by assumption) (by decide) | exact roomU (by assumption) (by decide) | ((try dsimp only [ctx] at *); omega)); (case hp => first | trivial | assumption); (case q1 => exact Nat.le_trans (Txt.slice_le _ _ _) (by assumption)); (case q2 => exact low_slice (by assumption)); k_whole; intro h9 tk9 t9 F9 N9; (try k_sweep); (try dsimp only)) | (unfold CHold; (k_dflt (refine' Tell.use (powerEnd _ _ _ _ _ ?q1 ?q2) ?B ?F ?N ?XB ?TB ?hk ?hd ?hu ?hp ?_ ?_); (case B => k_asm); (case F => k_asm); (case N => k_asm); (case XB => k_asm); (case TB => k_asm); (case hk => exact rfl); (case hd => first | exact roomD (by assumption) (by decide) | ((try dsimp only [ctx] at *); omega)); (case hu => first | exact roomC (by assumption) (by decide) | exact roomU (by assumption) (by decide) | ((try dsimp only [ctx] at *); omega)); (case hp => first | trivial | assumption); (case q1 => assumption); (case q2 => omega); (rotate_left 1; intro e7 h7 k7 c7 v7 x7 fl7 sm7; (try k_unfold); (try dsimp only); refine leave_fly (by k_asm) (by k_asm) fl7 sm7 ?_; refine holdR ?_; rotate_right 1); k_whole; intro v9 h9 tk9 st9 F9 N9 r9; (try dsimp only at r9); (first | subst r9 | (obtain ⟨t9, r9⟩ := r9; subst r9) | (obtain ⟨n9, t9, r9, e9⟩ := r9; subst r9) | skip); (try k_sweep); (try dsimp only))) | (k_dflt (refine' Tell.useT (figuresEnd _ _ _ _ _ ?q1 ?q2) ?B ?F ?N ?XB ?TB ?hk ?hd ?hu ?hp ?_); (case B => k_asm); (case F => k_asm); (case N => k_asm); (case XB => k_asm); (case TB => k_asm); (case hk => exact rfl); (case hd => first | exact roomD (by assumption) (by decide) | ((try dsimp only [ctx] at *); omega)); (case hu => first | exact roomC (by assumption) (by decide) | exact roomU (by assumption) (by decide) | ((try dsimp only [ctx] at *); omega)); (case hp => first | trivial | assumption); (case q1 => assumption); (case q2 => omega); k_whole; intro h9 tk9 t9 F9 N9; (try k_sweep); (try dsimp only)) | (unfold CHold; (k_dflt (refine' mkBE _ _ _ _ _ _ _ _ _ _ _ _ _ _ _ _ _ _ _ _ _ _ _ _ _ ?B ?F ?X ?N ?T ?hk ?hd ?hu ?_; (case B => k_asm); (case F => k_asm); (case X => k_asm); (case N => k_asm); (case T => k_asm); (case hk => exact rfl); (case hd => first | exact roomD (by assumption) (by decide) | ((try dsimp only [ctx] at *); omega)); (case hu => first | exact roomC (by assumption) (by decide) | exact roomU (by assumption) (by decide) | ((try dsimp only [ctx] at *); omega)); k_whole); intro x8 d8 t8 h8 k8 u8 v8 F8 N8 e8 n8; (try k_sweep); (try dsimp only)))); k_steps))
        all_goals first
          | (refine join_old (by k_asm) (by k_asm) rfl ?_
             exact .inl (by omega))
          | (refine join_new (by k_asm) (by k_asm) ?_
             rename (_ == _) = true => hq
             simp only [Int.toNat_natCast, slice1, o_bang, o_cent, one_eq] at hq
             rw [Nat.add_assoc] at hq
             exact .inr ⟨by omega, heads_sub hq (by decide)⟩)
      · intro h tk tz z F3 N3 hz
        clear F2 N2
        (k_steps; repeat' ((first | (k_dflt (refine' Tell.useT (capitalE _ _ _ ?q1 ?q2) ?B ?F ?N ?XB ?TB ?hk ?hd ?hu ?hp ?_); (case B => k_asm); (case F => k_asm); (case N => k_asm); (case XB => k_asm); (case TB => k_asm); (case hk => exact rfl); (case hd => first | exact roomD (by assumption) (by decide) | ((try dsimp only [ctx] at *); omega)); (case hu => first | exact roomC (by assumption) (by decide) | exact roomU (by assumption) (by decide) | ((try dsimp only [ctx] at *); omega)); (case hp => first | trivial | assumption); (case q1 => exact Nat.le_trans (Txt.slice_le _ _ _) (by assumption)); (case q2 => exact low_slice (by assumption)); k_whole; intro h9 tk9 t9 F9 N9; (try k_sweep); (try dsimp only)) | (unfold CHold; (k_dflt (refine' Tell.use (powerEnd _ _ _ _ _ ?q1 ?q2) ?B ?F ?N ?XB ?TB ?hk ?hd ?hu ?hp ?_ ?_); (case B => k_asm); (case F => k_asm); (case N => k_asm); (case XB => k_asm); (case TB => k_asm); (case hk => exact rfl); (case hd => first | exact roomD (by assumption) (by decide) | ((try dsimp only [ctx] at *); omega)); (case hu => first | exact roomC (by assumption) (by decide) | exact roomU (by assumption) (by decide) | ((try dsimp only [ctx] at *); omega)); (case hp => first | trivial | assumption); (case q1 => assumption); (case q2 => omega); (rotate_left 1; intro e7 h7 k7 c7 v7 x7 fl7 sm7; (try k_unfold); (try dsimp only); refine leave_fly (by k_asm) (by k_asm) fl7 sm7 ?_; refine holdR ?_; rotate_right 1); k_whole; intro v9 h9 tk9 st9 F9 N9 r9; (try dsimp only at r9); (first | subst r9 | (obtain ⟨t9, r9⟩ := r9; subst r9) | (obtain ⟨n9, t9, r9, e9⟩ := r9; subst r9) | skip); (try k_sweep); (try dsimp only))) | (k_dflt (refine' Tell.useT (figuresEnd _ _ _ _ _ ?q1 ?q2) ?B ?F ?N ?XB ?TB ?hk ?hd ?hu ?hp ?_); (case B => k_asm); (case F => k_asm); (case N => k_asm); (case XB => k_asm); (case TB => k_asm); (case hk => exact rfl); (case hd => first | exact roomD (by assumption) (by decide) | ((try dsimp only [ctx] at *); omega)); (case hu => first | exact roomC (by assumption) (by decide) | exact roomU (by assumption) (by decide) | ((try dsimp only [ctx] at *); omega)); (case hp => first | trivial | assumption); (case q1 => assumption); (case q2 => omega); k_whole; intro h9 tk9 t9 F9 N9; (try k_sweep); (try dsimp only)) | (unfold CHold; (k_dflt (refine' mkBE _ _ _ _ _ _ _ _ _ _ _ _ _ _ _ _ _ _ _ _ _ _ _ _ _ ?B ?F ?X ?N ?T ?hk ?hd ?hu ?_; (case B => k_asm); (case F => k_asm); (case X => k_asm); (case N => k_asm); (case T => k_asm); (case hk => exact rfl); (case hd => first | exact roomD (by assumption) (by decide) | ((try dsimp only [ctx] at *); omega)); (case hu => first | exact roomC (by assumption) (by decide) | exact roomU (by assumption) (by decide) | ((try dsimp only [ctx] at *); omega)); k_whole); intro x8 d8 t8 h8 k8 u8 v8 F8 N8 e8 n8; (try k_sweep); (try dsimp only)))); k_steps))
        ((try dsimp only); (try (first | k_unfold | dsimp only [qk])); (try dsimp only); unfold LeaveP; dsimp only; refine ret _ _ _ (Fr.keep (by k_asm)) ?_; try dsimp only)
        exact ⟨_, _, _, hz, K, _, _, rfl, News.fresh (by k_asm) (.head _), News.get (by k_asm) (.head _)⟩
    · unfold RHold
      intro hh fl sm
      refine rai _ _ _ _ _ ?_ fl sm
      obtain ⟨hc, tk7, hv, hp⟩ := x7
      rw [Int.toNat_natCast] at hp
      refine ⟨hc, n, tk7, hv, ?_⟩
      rw [numT_man, ← hn, if_neg (by omega), List.drop_drop, hp]
end Mine
/-! T8 -/
namespace Mine
theorem start_T8 : True := by
  w_top off
  trivial
theorem textAt (w : World) (row : Str) (tr : Tok) (a : Nat) (ta : Tok) (hr : row.length ≤ 1000) (k : Nat) (h1 : row.cps.toList[a + 1 + k]? = some 34) (h2 : ∀ j, a + 1 ≤ j → j < a + 1 + k → row.cps.toList[j]? ≠ some 34) : Tell w 20 114 [.str row tr, .int (a : Int) ta] (fun _ => True)
    (fun g h' v => ∃ z tk, z = (a : Int) + k + 2 ∧ ∃ ad x, v = .ref ad ∧ g.get? ad = none ∧ h'.get? ad = some { cls := .type "tuple", data := .seq #[x, .int z tk] })
    (fun _ _ => False) := by
  have e := find3_at (x := row) (c := 34) (i := a + 1) (k := a + 1 + k) (by omega) h1 h2
  have e' : Txt.find3 row (Str.ofString "\"") ((a : Int) + 1) = ((a + 1 + k : Nat) : Int) := by rw [o_quot]; exact e
  clear e
  have e0 : ¬ Txt.find3 row (Str.ofString "\"") ((a : Int) + 1) < 0 := by rw [e']; exact nn _
  unfold Tell
  intro mean mg mb dp un gd l base g gs dr tk os Q E B XB TB hd' hu hP ret rai
  revert XB; k_fill; intro XB
  have cLi := cLine_is
  have reci : recursionLimit = 1000 := rfl
  refine wpAny_call ?_
  k_dflt (refine' enterP (l0 := [("at", _), ("row", _)]) ?k1 ?k2 ?k3 ?k6 ?k7 ?k8 ?k9 ?kl ?kB ?_ ?c2 ?c3 ?c4 ?c5; (case k1 => exact B); (case k2 => exact XB); (case k3 => exact TB); (case k6 => k_is); (case k7 => k_is); (case k8 => exact roomZ hd'); (case k9 => exact BindsTo.of_eq rfl); (case kl => exact rfl); (case c5 => decide); (case kB => exact locs rfl); (case c2 => exact rfl); (case c3 => exact rfl); (case c4 => exact rfl); k_whole)
  intro L' h' tk0 F' N' X T
  dsimp only
  k_fold
  (k_with_none; (k_with "ne" => (first | exact ne_gt (by with_reducible assumption) | exact ne_lt (by with_reducible assumption) | with_reducible assumption | exact Ne.symm (by with_reducible assumption) | exact ne_gt (And.left (by with_reducible assumption)) | exact ne_gt (And.left (And.right (by with_reducible assumption))) | exact ne_gt (And.right (by with_reducible assumption)) | exact ne_gt (And.right (And.right (by with_reducible assumption))) | exact ne_lt (And.left (by with_reducible assumption)) | exact ne_lt (And.left (And.right (by with_reducible assumption))) | exact ne_lt (And.right (by with_reducible assumption)) | exact ne_lt (And.right (And.right (by with_reducible assumption))))); k_steps)
  ((try dsimp only); (try (first | k_unfold | dsimp only [qk])); (try dsimp only); unfold LeaveP; dsimp only; refine ret _ _ _ (Fr.keep (by k_asm)) ?_; try dsimp only)
  refine ⟨_, _, ?_, _, _, rfl, News.fresh (by k_asm) (.head _), News.get (by k_asm) (.head _)⟩
  omega

theorem orderAt (w : World) (row : Str) (tr : Tok) (a : Nat) (ta : Tok) (hr : row.length ≤ 1000) (h1 : row.cps.toList[a]? = some 60) (h2 : row.cps.toList[a + 1]? = some 61) : Tell w 20 121 [.str row tr, .int (a : Int) ta] (fun _ => True)
    (fun g h' v => ∃ z tk, z = (a : Int) + 2 ∧ ∃ ad x, v = .ref ad ∧ g.get? ad = none ∧ h'.get? ad = some { cls := .type "tuple", data := .seq #[x, .int z tk] })
    (fun _ _ => False) := by
  have hl : a < row.length := by rw [← row_len]; exact (List.getElem?_eq_some_iff.mp h1).1
  unfold Tell
  intro mean mg mb dp un gd l base g gs dr tk os Q E B XB TB hd' hu hP ret rai
  revert XB; k_fill; intro XB
  have cLi := cLine_is
  have reci : recursionLimit = 1000 := rfl
  refine wpAny_call ?_
  k_dflt (refine' enterP (l0 := [("at", _), ("row", _)]) ?k1 ?k2 ?k3 ?k6 ?k7 ?k8 ?k9 ?kl ?kB ?_ ?c2 ?c3 ?c4 ?c5; (case k1 => exact B); (case k2 => exact XB); (case k3 => exact TB); (case k6 => k_is); (case k7 => k_is); (case k8 => exact roomZ hd'); (case k9 => exact BindsTo.of_eq rfl); (case kl => exact rfl); (case c5 => decide); (case kB => exact locs rfl); (case c2 => exact rfl); (case c3 => exact rfl); (case c4 => exact rfl); k_whole)
  intro L' h' tk0 F' N' X T
  dsimp only
  k_fold
  (k_with_none; (k_with "ne" => (first | exact ne_gt (by with_reducible assumption) | exact ne_lt (by with_reducible assumption) | with_reducible assumption | exact Ne.symm (by with_reducible assumption) | exact ne_gt (And.left (by with_reducible assumption)) | exact ne_gt (And.left (And.right (by with_reducible assumption))) | exact ne_gt (And.right (by with_reducible assumption)) | exact ne_gt (And.right (And.right (by with_reducible assumption))) | exact ne_lt (And.left (by with_reducible assumption)) | exact ne_lt (And.left (And.right (by with_reducible assumption))) | exact ne_lt (And.right (by with_reducible assumption)) | exact ne_lt (And.right (And.right (by with_reducible assumption))))); (k_with "call ref" => refine hold86 ?_); k_steps; repeat' ((first | (k_dflt (refine' Tell.useT (skippedE _ _ _ _ _ ?q1 ?q2) ?B ?F ?N ?XB ?TB ?hk ?hd ?hu ?hp ?_); (case B => k_asm); (case F => k_asm); (case N => k_asm); (case XB => k_asm); (case TB => k_asm); (case hk => exact rfl); (case hd => first | exact roomD (by assumption) (by decide) | ((try dsimp only [ctx] at *); omega)); (case hu => first | exact roomC (by assumption) (by decide) | exact roomU (by assumption) (by decide) | ((try dsimp only [ctx] at *); omega)); (case hp => first | trivial | assumption); (case q1 => assumption); (case q2 => omega); k_whole; intro h9 tk9 t9 F9 N9; (try k_sweep); (try dsimp only))); k_steps))
  all_goals (
    have e : runE isBlk row.cps.toList (a + 1) = a + 1 := runE_stop h2 (by decide)
    simp only [tN1, e] at *
    first
      | (((try dsimp only); (try (first | k_unfold | dsimp only [qk])); (try dsimp only); unfold LeaveP; dsimp only; refine ret _ _ _ (Fr.keep (by k_asm)) ?_; try dsimp only)
         refine ⟨_, _, ?_, _, _, rfl, News.fresh (by k_asm) (.head _), News.get (by k_asm) (.head _)⟩
         omega; done)
      | (exfalso
         have ha : Txt.item row a = ⟨#[60]⟩ := item_is h1
         have hb : Txt.slice row (some (((a + 1 : Nat)) : Int)) (some (((a + 1 : Nat) : Int) + 1)) = ⟨#[61]⟩ := by
           rw [slice1]
           have hlt : a + 1 < row.cps.toList.length := (List.getElem?_eq_some_iff.mp h2).1
           have hg : row.cps.toList[a + 1] = 61 := (List.getElem?_eq_some_iff.mp h2).2
           rw [List.drop_eq_getElem_cons hlt, hg]
           rfl
         simp only [ha, hb] at *
         have hx : ((⟨#[60]⟩ : Str) ++ (⟨#[61]⟩ : Str)) = ⟨#[60, 61]⟩ := by decide +kernel
         simp [hx] at *; done))
end Mine
/-! T9 -/
namespace Mine
theorem start_T9 : True := by
  w_top off
  trivial



theorem wordAt (w : World) (row : Str) (tr : Tok) (a : Nat) (ta : Tok) (hr : row.length ≤ 1000) (hlow : Low row)
    (h1 : Txt.slice row (some (a : Int)) (some ((nameE row.cps.toList a : Nat) : Int)) ≠ "REM") (h2 : Txt.slice row (some (a : Int)) (some ((nameE row.cps.toList a : Nat) : Int)) ≠ "DATA") : Tell w 30 142 [.str row tr, .int (a : Int) ta] (fun _ => True)
    (fun g h' v => ∃ tk, ∃ ad l x n, v = .ref ad ∧ g.get? ad = none ∧ h'.get? ad = some { cls := .type "tuple", data := .seq #[.ref l, .int (nameE row.cps.toList a : Nat) tk] } ∧ l ≠ ad ∧ g.get? l = none ∧ h'.get? l = some { cls := .type "list", data := .seq #[x] n })
    (fun _ _ => False) := by
  unfold Tell
  intro mean mg mb dp un gd l base g gs dr tk os Q E B XB TB hd' hu hP ret rai
  revert XB; k_fill; intro XB
  have cLi := cLine_is
  have reci : recursionLimit = 1000 := rfl
  refine wpAny_call ?_
  k_dflt (refine' enterP (l0 := [("at", _), ("row", _)]) ?k1 ?k2 ?k3 ?k6 ?k7 ?k8 ?k9 ?kl ?kB ?_ ?c2 ?c3 ?c4 ?c5; (case k1 => exact B); (case k2 => exact XB); (case k3 => exact TB); (case k6 => k_is); (case k7 => k_is); (case k8 => exact roomZ hd'); (case k9 => exact BindsTo.of_eq rfl); (case kl => exact rfl); (case c5 => decide); (case kB => exact locs rfl); (case c2 => exact rfl); (case c3 => exact rfl); (case c4 => exact rfl); k_whole)
  intro L' h' tk0 F' N' X T
  dsimp only
  k_fold
  (k_with_none; (k_with "ne" => (first | exact ne_gt (by with_reducible assumption) | exact ne_lt (by with_reducible assumption) | with_reducible assumption | exact Ne.symm (by with_reducible assumption) | exact ne_gt (And.left (by with_reducible assumption)) | exact ne_gt (And.left (And.right (by with_reducible assumption))) | exact ne_gt (And.right (by with_reducible assumption)) | exact ne_gt (And.right (And.right (by with_reducible assumption))) | exact ne_lt (And.left (by with_reducible assumption)) | exact ne_lt (And.left (And.right (by with_reducible assumption))) | exact ne_lt (And.right (by with_reducible assumption)) | exact ne_lt (And.right (And.right (by with_reducible assumption))))); (k_with "call ref" => refine hold107 ?_); (k_with "call ref" => refine hold53 ?_); (k_with "call ref" => refine hold72 ?_); k_steps; repeat' ((first | (k_dflt (refine' Tell.useT (capitalE _ _ _ ?q1 ?q2) ?B ?F ?N ?XB ?TB ?hk ?hd ?hu ?hp ?_); (case B => k_asm); (case F => k_asm); (case N => k_asm); (case XB => k_asm); (case TB => k_asm); (case hk => exact rfl); (case hd => first | exact roomD (by assumption) (by decide) | ((try dsimp only [ctx] at *); omega)); (case hu => first | exact roomC (by assumption) (by decide) | exact roomU (by assumption) (by decide) | ((try dsimp only [ctx] at *); omega)); (case hp => first | trivial | assumption); (case q1 => exact Nat.le_trans (Txt.slice_le _ _ _) (by assumption)); (case q2 => exact low_slice (by assumption)); k_whole; intro h9 tk9 t9 F9 N9; (try k_sweep); (try dsimp only)) | (k_dflt (refine' Tell.useT (isWordE _ _ _ ?q1) ?B ?F ?N ?XB ?TB ?hk ?hd ?hu ?hp ?_); (case B => k_asm); (case F => k_asm); (case N => k_asm); (case XB => k_asm); (case TB => k_asm); (case hk => exact rfl); (case hd => first | exact roomD (by assumption) (by decide) | ((try dsimp only [ctx] at *); omega)); (case hu => first | exact roomC (by assumption) (by decide) | exact roomU (by assumption) (by decide) | ((try dsimp only [ctx] at *); omega)); (case hp => first | trivial | assumption); (case q1 => exact Nat.le_trans (Txt.slice_le _ _ _) (by assumption)); k_whole; intro h9 tk9 t9 F9 N9; (try k_sweep); (try dsimp only)) | (k_dflt (refine' Tell.useT (nameEnd _ _ _ _ _ ?q1 ?q2) ?B ?F ?N ?XB ?TB ?hk ?hd ?hu ?hp ?_); (case B => k_asm); (case F => k_asm); (case N => k_asm); (case XB => k_asm); (case TB => k_asm); (case hk => exact rfl); (case hd => first | exact roomD (by assumption) (by decide) | ((try dsimp only [ctx] at *); omega)); (case hu => first | exact roomC (by assumption) (by decide) | exact roomU (by assumption) (by decide) | ((try dsimp only [ctx] at *); omega)); (case hp => first | trivial | assumption); (case q1 => assumption); (case q2 => omega); k_whole; intro h9 tk9 t9 F9 N9; (try k_sweep); (try dsimp only))); k_steps))
  · exfalso
    rw [Int.toNat_natCast] at *
    exact h1 (beq_iff_eq.mp (by assumption))
  · exfalso
    rw [Int.toNat_natCast] at *
    exact h2 (beq_iff_eq.mp (by assumption))
  all_goals (
    ((try dsimp only); (try (first | k_unfold | dsimp only [qk])); (try dsimp only); unfold LeaveP; dsimp only; refine ret _ _ _ (Fr.keep (by k_asm)) ?_; try dsimp only)
    rw [Int.toNat_natCast] at *
    refine ⟨_, _, _, _, _, rfl, News.fresh (by k_asm) (.head _), News.get (by k_asm) (.head _), ?_, News.fresh (by k_asm) (.tail _ (.head _)), News.get (by k_asm) (.tail _ (.head _))⟩
    refine neN ?_
    omega)
end Mine
/-! TK -/
namespace Mine
theorem start_TK : True := by
  w_top off
  trivial
section
variable {prog : Program} {w : World} {A : Around} {E : Value → Shared → Prop} {s : Shared} {value slice : PySem.Expr} {row : Str} {t u : Tok} {b c : Nat} {Q : Value → Shared → Prop}
theorem item_c (hc : row.cps.toList[b]? = some c) (hr : row.length ≤ 1000) (h : Q (.str ⟨#[c]⟩ s.toks) { s with toks := s.toks + 1 })
    (hs : subscripted slice false (.str row t) (.int (b : Int) u) = operate [.str row t, .int (b : Int) u] (getItem (.str row t) (.int (b : Int) u)) := by with_unfolding_all rfl)
    (ht : ∀ r, letTemporaryGo value (.str row t) r = pure () := by intro _; with_unfolding_all rfl) :
    wpAny (model prog w) A (subscriptTail value slice (.str row t) (.int (b : Int) u)) Q E s := by
  have hb : b < row.cps.toList.length := (List.getElem?_eq_some_iff.mp hc).1
  rw [row_len] at hb
  refine item_str (fitsSsize_of (N := 9223372036854775808) (by omega) (by omega) (Int.le_refl _)) (by omega) (by omega) (fun _ => ?_) hs ht
  rw [item_is hc]
  exact h
end
/-- a token and the place behind it -/
def TokRet (g h' : Heap) (v : Value) (z : Int) : Prop :=
  ∃ tk ad l x n, v = .ref ad ∧ g.get? ad = none ∧ h'.get? ad = some { cls := .type "tuple", data := .seq #[.ref l, .int z tk] } ∧ l ≠ ad ∧ g.get? l = none ∧ h'.get? l = some { cls := .type "list", data := .seq #[x] n }
/-- a pair made by the call: something, and an int -/
def PairRet (g h' : Heap) (v : Value) (z : Int) : Prop :=
  ∃ tk ad x, v = .ref ad ∧ g.get? ad = none ∧ h'.get? ad = some { cls := .type "tuple", data := .seq #[x, .int z tk] }
theorem Tell.mono {w : World} {k : Nat} {f : Addr} {vs : List Value} {P : Heap → Prop} {R R' : Heap → Heap → Value → Prop} {X X' : Str → Value → Prop} (C : Tell w k f vs P R X) (hR : ∀ g h v, R g h v → R' g h v) (hX : ∀ c v, X c v → X' c v) : Tell w k f vs P R' X' := by
  intro mean mg mb dp un gd l base g gs dr tk os Q E B XB TB h1 h2 h3 ret rai
  exact C mean mg mb dp un gd l base g gs dr tk os Q E B XB TB h1 h2 h3 (fun v h' tk' st r => ret v h' tk' st (hR _ _ _ r)) (fun e h' tk' c v x fl sm => rai e h' tk' c v (hX _ _ x) fl sm)
def AllNe (d : Addr) : List (Addr × Obj) → Prop
  | [] => True
  | p :: r => @Ne Nat p.1 d ∧ AllNe d r
theorem allNe_of {d : Addr} : ∀ {l : List (Addr × Obj)}, (∀ p ∈ l, p.1 ≠ d) → AllNe d l
  | [], _ => trivial
  | p :: _, h => ⟨h p (.head _), allNe_of fun q hq => h q (.tail _ hq)⟩
theorem Tell.useU {w : World} {k : Nat} {f : Addr} {vs : List Value} {P : Heap → Prop} {R : Heap → Heap → Value → Prop} {X : Str → Value → Prop} {mean : ExcName → Option Value} {mg mb : Str → Option Value} {dp un : Nat} {gd : Option (List Code)} {cn : Str} {cs : Scope} {L a : Addr} {ccd : Value} {cl : List (Str × Addr)}
    {A₀ : Around} {outer : List Env} {base g : Heap} {m : Str → Option Value} {news : List (Addr × Obj)} {s : Shared} {Q E : Value → Shared → Prop}
    (C : Tell w k f vs P R X) (B : Below A₀ base outer g) (F : Fr g L s.heap m) (N : News g L s.heap news) (XB : (_root_.MineH.hd.heap_1 w.params).In base) (TB : Top _root_.MineH.hd.view_39 (looseW _root_.MineH.hd.view_39 [Str.ofString "BasicError", Str.ofString "PAIRS"]) mean mg mb base) (hk : cs.kind = .function)
    (hd : dp + k < recursionLimit) (hu : un + 10 * k < cLine) (hp : P s.heap)
    (ret : ∀ v h' tk', (∀ b, s.heap.get? b = none → g.get? b = none ∧ AllNe b news) → Fr g L h' m → News g L h' news → R s.heap h' v → Q v { s with heap := h', toks := tk' })
    (rai : ∀ e h' tk' c v, X c v → Fly w base s.heap (envX cn cs L a ccd cl :: outer) e c v h' → s.heap.UpToSlots h' → E (.ref e) { s with heap := h', toks := tk' }) :
    wpAny (model PySem.Challenge.rw_pq0143_01.prog w) (ctx dp un gd (envX cn cs L a ccd cl :: outer)) (call (.ref f) vs) Q E s :=
  Tell.use C B F N XB TB hk hd hu hp (fun v h' tk' st F' N' r => ret v h' tk' (fun b hb => ⟨kts_none F.keep hb, allNe_of fun p hp q => by
    have := N.get hp; rw [q, hb] at this; cases this⟩) F' N' r) rai
section
variable {w : World} {k : Nat} {f : Addr} {vs : List Value} {P : Heap → Prop} {mean : ExcName → Option Value} {mg mb : Str → Option Value} {dp un : Nat} {gd : Option (List Code)} {cn : Str} {cs : Scope} {L a : Addr} {ccd : Value} {cl : List (Str × Addr)}
  {A₀ : Around} {outer : List Env} {base g h : Heap} {m : Str → Option Value} {news : List (Addr × Obj)} {gs : Array GenState} {dr : Drawn} {tk : Nat} {os : OsState} {Q E : Value → Shared → Prop}
/-- a contract that gives back a made pair -/
theorem Tell.useP {e : Int → Prop} {X : Str → Value → Prop} (C : Tell w k f vs P (fun g h' v => ∃ z, e z ∧ PairRet g h' v z) X) (B : Below A₀ base outer g) (F : Fr g L h m) (N : News g L h news) (XB : (_root_.MineH.hd.heap_1 w.params).In base) (TB : Top _root_.MineH.hd.view_39 (looseW _root_.MineH.hd.view_39 [Str.ofString "BasicError", Str.ofString "PAIRS"]) mean mg mb base) (hk : cs.kind = .function)
    (hd : dp + k < recursionLimit) (hu : un + 10 * k < cLine) (hp : P h) (ret : ∀ h' tk' z t ad x, e z → Fr g L h' m → News g L h' ((ad, { cls := .type "tuple", data := .seq #[x, .int z t] }) :: news) → AllNe ad news → Q (.ref ad) ⟨h', gs, dr, tk', os⟩)
    (rai : ∀ e h' tk' c v, X c v → Fly w base h (envX cn cs L a ccd cl :: outer) e c v h' → h.UpToSlots h' → E (.ref e) ⟨h', gs, dr, tk', os⟩) :
    CHold (wpAny (model PySem.Challenge.rw_pq0143_01.prog w) (ctx dp un gd (envX cn cs L a ccd cl :: outer)) (call (.ref f) vs) Q E ⟨h, gs, dr, tk, os⟩) :=
  mkC <| Tell.useU C B F N XB TB hk hd hu hp (fun v h' tk' u F' N' r => by
    obtain ⟨z, ez, t, ad, x, rfl, n, e⟩ := r
    exact ret h' tk' z t ad x ez F' (News.more F' N' e (fun es n q => by cases q) (u _ n).1) (u _ n).2) rai
theorem Tell.useP0 {e : Int → Prop} (C : Tell w k f vs P (fun g h' v => ∃ z, e z ∧ PairRet g h' v z) (fun _ _ => False)) (B : Below A₀ base outer g) (F : Fr g L h m) (N : News g L h news) (XB : (_root_.MineH.hd.heap_1 w.params).In base) (TB : Top _root_.MineH.hd.view_39 (looseW _root_.MineH.hd.view_39 [Str.ofString "BasicError", Str.ofString "PAIRS"]) mean mg mb base) (hk : cs.kind = .function)
    (hd : dp + k < recursionLimit) (hu : un + 10 * k < cLine) (hp : P h) (ret : ∀ h' tk' z t ad x, e z → Fr g L h' m → News g L h' ((ad, { cls := .type "tuple", data := .seq #[x, .int z t] }) :: news) → AllNe ad news → Q (.ref ad) ⟨h', gs, dr, tk', os⟩) :
    CHold (wpAny (model PySem.Challenge.rw_pq0143_01.prog w) (ctx dp un gd (envX cn cs L a ccd cl :: outer)) (call (.ref f) vs) Q E ⟨h, gs, dr, tk, os⟩) := Tell.useP C B F N XB TB hk hd hu hp ret (fun _ _ _ _ _ z => z.elim)
end
end Mine
/-! T10 -/
namespace Mine
theorem start_T10 : True := by
  w_top off
  trivial
theorem numberP (w : World) (row : Str) (tr : Tok) (a : Nat) (ta : Tok) (hr : row.length ≤ 1000) (hlow : Low row) : Tell w 50 100 [.str row tr, .int (a : Int) ta] (fun _ => True)
    (fun g h' v => ∃ z, (∃ k, (z = (a : Int) + (k : Nat) ∨ (z = (a : Int) + (k : Nat) + 1 ∧ heads [33, 37] (row.cps.toList.drop (a + k)) = true)) ∧ numT (row.cps.toList.drop a) = .ok k) ∧ PairRet g h' v z)
    (fun c v => c = "OV" ∧ ∃ n tk, v = .int ((a + n : Nat) : Int) tk ∧ numT (row.cps.toList.drop a) = .error n) :=
  (numberAt w row tr a ta hr hlow (by omega)).mono (fun g h v ⟨k, z, tk, h1, h2, ad, x, h3⟩ => ⟨z, ⟨k, h1, h2⟩, tk, ad, x, h3⟩) (fun c v h => h)
theorem textP (w : World) (row : Str) (tr : Tok) (a : Nat) (ta : Tok) (hr : row.length ≤ 1000) (k : Nat) (h1 : row.cps.toList[a + 1 + k]? = some 34) (h2 : ∀ j, a + 1 ≤ j → j < a + 1 + k → row.cps.toList[j]? ≠ some 34) : Tell w 20 114 [.str row tr, .int (a : Int) ta] (fun _ => True)
    (fun g h' v => ∃ z, z = (a : Int) + k + 2 ∧ PairRet g h' v z) (fun _ _ => False) :=
  (textAt w row tr a ta hr k h1 h2).mono (fun g h v ⟨z, tk, h1, ad, x, h3⟩ => ⟨z, h1, tk, ad, x, h3⟩) (fun c v h => h)
theorem orderP (w : World) (row : Str) (tr : Tok) (a : Nat) (ta : Tok) (hr : row.length ≤ 1000) (h1 : row.cps.toList[a]? = some 60) (h2 : row.cps.toList[a + 1]? = some 61) : Tell w 20 121 [.str row tr, .int (a : Int) ta] (fun _ => True)
    (fun g h' v => ∃ z, z = (a : Int) + 2 ∧ PairRet g h' v z) (fun _ _ => False) :=
  (orderAt w row tr a ta hr h1 h2).mono (fun g h v ⟨z, tk, h1, ad, x, h3⟩ => ⟨z, h1, tk, ad, x, h3⟩) (fun c v h => h)
theorem wordP (w : World) (row : Str) (tr : Tok) (a : Nat) (ta : Tok) (hr : row.length ≤ 1000) (hlow : Low row)
    (h1 : Txt.slice row (some (a : Int)) (some ((nameE row.cps.toList a : Nat) : Int)) ≠ "REM") (h2 : Txt.slice row (some (a : Int)) (some ((nameE row.cps.toList a : Nat) : Int)) ≠ "DATA") : Tell w 30 142 [.str row tr, .int (a : Int) ta] (fun _ => True)
    (fun g h' v => TokRet g h' v (nameE row.cps.toList a : Nat)) (fun _ _ => False) :=
  (wordAt w row tr a ta hr hlow h1 h2).mono (fun g h v h => h) (fun c v h => h)





theorem tok_lpar (w : World) (row : Str) (tr : Tok) (a : Nat) (ta : Tok) (hr : row.length ≤ 1000) (hc : row.cps.toList[a]? = some 40) : Tell w 60 149 [.str row tr, .int (a : Int) ta] (fun _ => True)
    (fun g h' v => TokRet g h' v ((a + 1 : Nat) : Int)) (fun _ _ => False) := by
  unfold Tell
  intro mean mg mb dp un gd l base g gs dr tk os Q E B XB TB hd' hu hP ret rai
  revert XB; k_fill; intro XB
  have cLi := cLine_is
  have reci : recursionLimit = 1000 := rfl
  refine wpAny_call ?_
  k_dflt (refine' enterP (l0 := [("at", _), ("row", _)]) ?k1 ?k2 ?k3 ?k6 ?k7 ?k8 ?k9 ?kl ?kB ?_ ?c2 ?c3 ?c4 ?c5; (case k1 => exact B); (case k2 => exact XB); (case k3 => exact TB); (case k6 => k_is); (case k7 => k_is); (case k8 => exact roomZ hd'); (case k9 => exact BindsTo.of_eq rfl); (case kl => exact rfl); (case c5 => decide); (case kB => exact locs rfl); (case c2 => exact rfl); (case c3 => exact rfl); (case c4 => exact rfl); k_whole)
  intro L' h' tk0 F' N' X T
  dsimp only
  k_fold
  (k_with_none; (k_with "ne" => (first | exact ne_gt (by with_reducible assumption) | exact ne_lt (by with_reducible assumption) | with_reducible assumption | exact Ne.symm (by with_reducible assumption) | exact ne_gt (And.left (by with_reducible assumption)) | exact ne_gt (And.left (And.right (by with_reducible assumption))) | exact ne_gt (And.right (by with_reducible assumption)) | exact ne_gt (And.right (And.right (by with_reducible assumption))) | exact ne_lt (And.left (by with_reducible assumption)) | exact ne_lt (And.left (And.right (by with_reducible assumption))) | exact ne_lt (And.right (by with_reducible assumption)) | exact ne_lt (And.right (And.right (by with_reducible assumption))))); (k_with "subscriptTail Name Name str int" => (refine item_c (by assumption) (by assumption) ?_)); (k_with "ite" => (k_closed; first | refine ite_pos (by decide +kernel) ?_ | refine ite_neg (by decide +kernel) ?_)); (k_with "call ref" => refine hold34 ?_); (k_with "exec Raise some none" => refine Raise_be rfl ?_); (k_with "call ref" => refine hold67 ?_); (k_with "call ref" => refine hold60 ?_); k_steps; repeat' ((first | (k_dflt (refine' Tell.useE (isLetter _ _ _) ?B ?F ?N ?XB ?TB ?hk ?hd ?hu ?hp ?_); (case B => k_asm); (case F => k_asm); (case N => k_asm); (case XB => k_asm); (case TB => k_asm); (case hk => exact rfl); (case hd => first | exact roomD (by assumption) (by decide) | ((try dsimp only [ctx] at *); omega)); (case hu => first | exact roomC (by assumption) (by decide) | exact roomU (by assumption) (by decide) | ((try dsimp only [ctx] at *); omega)); (case hp => first | trivial | assumption);  k_whole; intro h9 tk9 F9 N9; (try k_sweep); (try dsimp only)) | (k_dflt (refine' Tell.useE (isFigure _ _ _) ?B ?F ?N ?XB ?TB ?hk ?hd ?hu ?hp ?_); (case B => k_asm); (case F => k_asm); (case N => k_asm); (case XB => k_asm); (case TB => k_asm); (case hk => exact rfl); (case hd => first | exact roomD (by assumption) (by decide) | ((try dsimp only [ctx] at *); omega)); (case hu => first | exact roomC (by assumption) (by decide) | exact roomU (by assumption) (by decide) | ((try dsimp only [ctx] at *); omega)); (case hp => first | trivial | assumption);  k_whole; intro h9 tk9 F9 N9; (try k_sweep); (try dsimp only)) | (unfold CHold; (k_dflt (refine' mkBE _ _ _ _ _ _ _ _ _ _ _ _ _ _ _ _ _ _ _ _ _ _ _ _ _ ?B ?F ?X ?N ?T ?hk ?hd ?hu ?_; (case B => k_asm); (case F => k_asm); (case X => k_asm); (case N => k_asm); (case T => k_asm); (case hk => exact rfl); (case hd => first | exact roomD (by assumption) (by decide) | ((try dsimp only [ctx] at *); omega)); (case hu => first | exact roomC (by assumption) (by decide) | exact roomU (by assumption) (by decide) | ((try dsimp only [ctx] at *); omega)); k_whole); intro x8 d8 t8 h8 k8 u8 v8 F8 N8 e8 n8; (try k_sweep); (try dsimp only)))); k_steps))
  ((try dsimp only); (try (first | k_unfold | dsimp only [qk])); (try dsimp only); unfold LeaveP; dsimp only; refine ret _ _ _ (Fr.keep (by k_asm)) ?_; try dsimp only)
  refine ⟨_, _, _, _, _, rfl, News.fresh (by k_asm) (.head _), News.get (by k_asm) (.head _), ?_, News.fresh (by k_asm) (.tail _ (.head _)), News.get (by k_asm) (.tail _ (.head _))⟩
  refine neN ?_
  omega
theorem tok_colon (w : World) (row : Str) (tr : Tok) (a : Nat) (ta : Tok) (hr : row.length ≤ 1000) (hc : row.cps.toList[a]? = some 58) : Tell w 60 149 [.str row tr, .int (a : Int) ta] (fun _ => True)
    (fun g h' v => TokRet g h' v ((a + 1 : Nat) : Int)) (fun _ _ => False) := by
  unfold Tell
  intro mean mg mb dp un gd l base g gs dr tk os Q E B XB TB hd' hu hP ret rai
  revert XB; k_fill; intro XB
  have cLi := cLine_is
  have reci : recursionLimit = 1000 := rfl
  refine wpAny_call ?_
  k_dflt (refine' enterP (l0 := [("at", _), ("row", _)]) ?k1 ?k2 ?k3 ?k6 ?k7 ?k8 ?k9 ?kl ?kB ?_ ?c2 ?c3 ?c4 ?c5; (case k1 => exact B); (case k2 => exact XB); (case k3 => exact TB); (case k6 => k_is); (case k7 => k_is); (case k8 => exact roomZ hd'); (case k9 => exact BindsTo.of_eq rfl); (case kl => exact rfl); (case c5 => decide); (case kB => exact locs rfl); (case c2 => exact rfl); (case c3 => exact rfl); (case c4 => exact rfl); k_whole)
  intro L' h' tk0 F' N' X T
  dsimp only
  k_fold
  (k_with_none; (k_with "ne" => (first | exact ne_gt (by with_reducible assumption) | exact ne_lt (by with_reducible assumption) | with_reducible assumption | exact Ne.symm (by with_reducible assumption) | exact ne_gt (And.left (by with_reducible assumption)) | exact ne_gt (And.left (And.right (by with_reducible assumption))) | exact ne_gt (And.right (by with_reducible assumption)) | exact ne_gt (And.right (And.right (by with_reducible assumption))) | exact ne_lt (And.left (by with_reducible assumption)) | exact ne_lt (And.left (And.right (by with_reducible assumption))) | exact ne_lt (And.right (by with_reducible assumption)) | exact ne_lt (And.right (And.right (by with_reducible assumption))))); (k_with "subscriptTail Name Name str int" => (refine item_c (by assumption) (by assumption) ?_)); (k_with "ite" => (k_closed; first | refine ite_pos (by decide +kernel) ?_ | refine ite_neg (by decide +kernel) ?_)); (k_with "call ref" => refine hold34 ?_); (k_with "exec Raise some none" => refine Raise_be rfl ?_); (k_with "call ref" => refine hold67 ?_); (k_with "call ref" => refine hold60 ?_); k_steps; repeat' ((first | (k_dflt (refine' Tell.useE (isLetter _ _ _) ?B ?F ?N ?XB ?TB ?hk ?hd ?hu ?hp ?_); (case B => k_asm); (case F => k_asm); (case N => k_asm); (case XB => k_asm); (case TB => k_asm); (case hk => exact rfl); (case hd => first | exact roomD (by assumption) (by decide) | ((try dsimp only [ctx] at *); omega)); (case hu => first | exact roomC (by assumption) (by decide) | exact roomU (by assumption) (by decide) | ((try dsimp only [ctx] at *); omega)); (case hp => first | trivial | assumption);  k_whole; intro h9 tk9 F9 N9; (try k_sweep); (try dsimp only)) | (k_dflt (refine' Tell.useE (isFigure _ _ _) ?B ?F ?N ?XB ?TB ?hk ?hd ?hu ?hp ?_); (case B => k_asm); (case F => k_asm); (case N => k_asm); (case XB => k_asm); (case TB => k_asm); (case hk => exact rfl); (case hd => first | exact roomD (by assumption) (by decide) | ((try dsimp only [ctx] at *); omega)); (case hu => first | exact roomC (by assumption) (by decide) | exact roomU (by assumption) (by decide) | ((try dsimp only [ctx] at *); omega)); (case hp => first | trivial | assumption);  k_whole; intro h9 tk9 F9 N9; (try k_sweep); (try dsimp only)) | (unfold CHold; (k_dflt (refine' mkBE _ _ _ _ _ _ _ _ _ _ _ _ _ _ _ _ _ _ _ _ _ _ _ _ _ ?B ?F ?X ?N ?T ?hk ?hd ?hu ?_; (case B => k_asm); (case F => k_asm); (case X => k_asm); (case N => k_asm); (case T => k_asm); (case hk => exact rfl); (case hd => first | exact roomD (by assumption) (by decide) | ((try dsimp only [ctx] at *); omega)); (case hu => first | exact roomC (by assumption) (by decide) | exact roomU (by assumption) (by decide) | ((try dsimp only [ctx] at *); omega)); k_whole); intro x8 d8 t8 h8 k8 u8 v8 F8 N8 e8 n8; (try k_sweep); (try dsimp only)))); k_steps))
  ((try dsimp only); (try (first | k_unfold | dsimp only [qk])); (try dsimp only); unfold LeaveP; dsimp only; refine ret _ _ _ (Fr.keep (by k_asm)) ?_; try dsimp only)
  refine ⟨_, _, _, _, _, rfl, News.fresh (by k_asm) (.head _), News.get (by k_asm) (.head _), ?_, News.fresh (by k_asm) (.tail _ (.head _)), News.get (by k_asm) (.tail _ (.head _))⟩
  refine neN ?_
  omega
/-- what tokens_at gives back at an ask sign -/
def AskRet (g h' : Heap) (v : Value) (z : Int) : Prop :=
  ∃ t1 t2 tk ad l t n, ∃ m : Nat, v = .ref ad ∧ g.get? ad = none ∧ h'.get? ad = some { cls := .type "tuple", data := .seq #[.ref l, .int z tk] } ∧ l ≠ ad ∧ g.get? l = none ∧ h'.get? l = some { cls := .type "list", data := .seq #[.ref t] n } ∧
    t ≠ l ∧ t ≠ ad ∧ g.get? t = none ∧ h'.get? t = some { cls := .type "tuple", data := .seq #[.str "word" t1, .str "PRINT" t2] }
theorem tokAsk (w : World) (row : Str) (tr : Tok) (a : Nat) (ta : Tok) (hr : row.length ≤ 1000) (hc : row.cps.toList[a]? = some 63) : Tell w 60 149 [.str row tr, .int (a : Int) ta] (fun _ => True)
    (fun g h' v => AskRet g h' v ((a + 1 : Nat) : Int)) (fun _ _ => False) := by
  unfold Tell
  intro mean mg mb dp un gd l base g gs dr tk os Q E B XB TB hd' hu hP ret rai
  revert XB; k_fill; intro XB
  have cLi := cLine_is
  have reci : recursionLimit = 1000 := rfl
  refine wpAny_call ?_
  k_dflt (refine' enterP (l0 := [("at", _), ("row", _)]) ?k1 ?k2 ?k3 ?k6 ?k7 ?k8 ?k9 ?kl ?kB ?_ ?c2 ?c3 ?c4 ?c5; (case k1 => exact B); (case k2 => exact XB); (case k3 => exact TB); (case k6 => k_is); (case k7 => k_is); (case k8 => exact roomZ hd'); (case k9 => exact BindsTo.of_eq rfl); (case kl => exact rfl); (case c5 => decide); (case kB => exact locs rfl); (case c2 => exact rfl); (case c3 => exact rfl); (case c4 => exact rfl); k_whole)
  intro L' h' tk0 F' N' X T
  dsimp only
  k_fold
  (k_with_none; (k_with "ne" => (first | exact ne_gt (by with_reducible assumption) | exact ne_lt (by with_reducible assumption) | with_reducible assumption | exact Ne.symm (by with_reducible assumption) | exact ne_gt (And.left (by with_reducible assumption)) | exact ne_gt (And.left (And.right (by with_reducible assumption))) | exact ne_gt (And.right (by with_reducible assumption)) | exact ne_gt (And.right (And.right (by with_reducible assumption))) | exact ne_lt (And.left (by with_reducible assumption)) | exact ne_lt (And.left (And.right (by with_reducible assumption))) | exact ne_lt (And.right (by with_reducible assumption)) | exact ne_lt (And.right (And.right (by with_reducible assumption))))); (k_with "subscriptTail Name Name str int" => (refine item_c (by assumption) (by assumption) ?_)); (k_with "ite" => (k_closed; first | refine ite_pos (by decide +kernel) ?_ | refine ite_neg (by decide +kernel) ?_)); (k_with "call ref" => refine hold34 ?_); (k_with "exec Raise some none" => refine Raise_be rfl ?_); (k_with "call ref" => refine hold67 ?_); (k_with "call ref" => refine hold60 ?_); k_steps; repeat' ((first | (k_dflt (refine' Tell.useE (isLetter _ _ _) ?B ?F ?N ?XB ?TB ?hk ?hd ?hu ?hp ?_); (case B => k_asm); (case F => k_asm); (case N => k_asm); (case XB => k_asm); (case TB => k_asm); (case hk => exact rfl); (case hd => first | exact roomD (by assumption) (by decide) | ((try dsimp only [ctx] at *); omega)); (case hu => first | exact roomC (by assumption) (by decide) | exact roomU (by assumption) (by decide) | ((try dsimp only [ctx] at *); omega)); (case hp => first | trivial | assumption);  k_whole; intro h9 tk9 F9 N9; (try k_sweep); (try dsimp only)) | (k_dflt (refine' Tell.useE (isFigure _ _ _) ?B ?F ?N ?XB ?TB ?hk ?hd ?hu ?hp ?_); (case B => k_asm); (case F => k_asm); (case N => k_asm); (case XB => k_asm); (case TB => k_asm); (case hk => exact rfl); (case hd => first | exact roomD (by assumption) (by decide) | ((try dsimp only [ctx] at *); omega)); (case hu => first | exact roomC (by assumption) (by decide) | exact roomU (by assumption) (by decide) | ((try dsimp only [ctx] at *); omega)); (case hp => first | trivial | assumption);  k_whole; intro h9 tk9 F9 N9; (try k_sweep); (try dsimp only)) | (unfold CHold; (k_dflt (refine' mkBE _ _ _ _ _ _ _ _ _ _ _ _ _ _ _ _ _ _ _ _ _ _ _ _ _ ?B ?F ?X ?N ?T ?hk ?hd ?hu ?_; (case B => k_asm); (case F => k_asm); (case X => k_asm); (case N => k_asm); (case T => k_asm); (case hk => exact rfl); (case hd => first | exact roomD (by assumption) (by decide) | ((try dsimp only [ctx] at *); omega)); (case hu => first | exact roomC (by assumption) (by decide) | exact roomU (by assumption) (by decide) | ((try dsimp only [ctx] at *); omega)); k_whole); intro x8 d8 t8 h8 k8 u8 v8 F8 N8 e8 n8; (try k_sweep); (try dsimp only)))); k_steps))
  ((try dsimp only); (try (first | k_unfold | dsimp only [qk])); (try dsimp only); unfold LeaveP; dsimp only; refine ret _ _ _ (Fr.keep (by k_asm)) ?_; try dsimp only)
  refine ⟨_, _, _, _, _, _, _, 0, rfl, News.fresh (by k_asm) (.head _), News.get (by k_asm) (.head _), ?_, News.fresh (by k_asm) (.tail _ (.head _)), News.get (by k_asm) (.tail _ (.head _)), ?_, ?_, News.fresh (by k_asm) (.tail _ (.tail _ (.head _))), News.get (by k_asm) (.tail _ (.tail _ (.head _)))⟩
  all_goals (refine neN ?_; omega)
theorem tok_ask (w : World) (row : Str) (tr : Tok) (a : Nat) (ta : Tok) (hr : row.length ≤ 1000) (hc : row.cps.toList[a]? = some 63) : Tell w 60 149 [.str row tr, .int (a : Int) ta] (fun _ => True)
    (fun g h' v => TokRet g h' v ((a + 1 : Nat) : Int)) (fun _ _ => False) :=
  (tokAsk w row tr a ta hr hc).mono (fun g h' v ⟨_, _, tk, ad, l, t, n, _, r1, r2, r3, r4, r5, r6, _⟩ => ⟨tk, ad, l, .ref t, n, r1, r2, r3, r4, r5, r6⟩) (fun _ _ z => z)
theorem tok_brace (w : World) (row : Str) (tr : Tok) (a : Nat) (ta : Tok) (hr : row.length ≤ 1000) (hc : row.cps.toList[a]? = some 123) : Tell w 60 149 [.str row tr, .int (a : Int) ta] (fun _ => True)
    (fun g h' v => False) (fun c v => c = "SN" ∧ ∃ tk, v = .int (a : Int) tk) := by
  unfold Tell
  intro mean mg mb dp un gd l base g gs dr tk os Q E B XB TB hd' hu hP ret rai
  revert XB; k_fill; intro XB
  have cLi := cLine_is
  have reci : recursionLimit = 1000 := rfl
  refine wpAny_call ?_
  k_dflt (refine' enterP (l0 := [("at", _), ("row", _)]) ?k1 ?k2 ?k3 ?k6 ?k7 ?k8 ?k9 ?kl ?kB ?_ ?c2 ?c3 ?c4 ?c5; (case k1 => exact B); (case k2 => exact XB); (case k3 => exact TB); (case k6 => k_is); (case k7 => k_is); (case k8 => exact roomZ hd'); (case k9 => exact BindsTo.of_eq rfl); (case kl => exact rfl); (case c5 => decide); (case kB => exact locs rfl); (case c2 => exact rfl); (case c3 => exact rfl); (case c4 => exact rfl); k_whole)
  intro L' h' tk0 F' N' X T
  dsimp only
  k_fold
  (k_with_none; (k_with "ne" => (first | exact ne_gt (by with_reducible assumption) | exact ne_lt (by with_reducible assumption) | with_reducible assumption | exact Ne.symm (by with_reducible assumption) | exact ne_gt (And.left (by with_reducible assumption)) | exact ne_gt (And.left (And.right (by with_reducible assumption))) | exact ne_gt (And.right (by with_reducible assumption)) | exact ne_gt (And.right (And.right (by with_reducible assumption))) | exact ne_lt (And.left (by with_reducible assumption)) | exact ne_lt (And.left (And.right (by with_reducible assumption))) | exact ne_lt (And.right (by with_reducible assumption)) | exact ne_lt (And.right (And.right (by with_reducible assumption))))); (k_with "subscriptTail Name Name str int" => (refine item_c (by assumption) (by assumption) ?_)); (k_with "ite" => (k_closed; first | refine ite_pos (by decide +kernel) ?_ | refine ite_neg (by decide +kernel) ?_)); (k_with "call ref" => refine hold34 ?_); (k_with "exec Raise some none" => refine Raise_be rfl ?_); (k_with "call ref" => refine hold67 ?_); (k_with "call ref" => refine hold60 ?_); k_steps; repeat' ((first | (k_dflt (refine' Tell.useE (isLetter _ _ _) ?B ?F ?N ?XB ?TB ?hk ?hd ?hu ?hp ?_); (case B => k_asm); (case F => k_asm); (case N => k_asm); (case XB => k_asm); (case TB => k_asm); (case hk => exact rfl); (case hd => first | exact roomD (by assumption) (by decide) | ((try dsimp only [ctx] at *); omega)); (case hu => first | exact roomC (by assumption) (by decide) | exact roomU (by assumption) (by decide) | ((try dsimp only [ctx] at *); omega)); (case hp => first | trivial | assumption);  k_whole; intro h9 tk9 F9 N9; (try k_sweep); (try dsimp only)) | (k_dflt (refine' Tell.useE (isFigure _ _ _) ?B ?F ?N ?XB ?TB ?hk ?hd ?hu ?hp ?_); (case B => k_asm); (case F => k_asm); (case N => k_asm); (case XB => k_asm); (case TB => k_asm); (case hk => exact rfl); (case hd => first | exact roomD (by assumption) (by decide) | ((try dsimp only [ctx] at *); omega)); (case hu => first | exact roomC (by assumption) (by decide) | exact roomU (by assumption) (by decide) | ((try dsimp only [ctx] at *); omega)); (case hp => first | trivial | assumption);  k_whole; intro h9 tk9 F9 N9; (try k_sweep); (try dsimp only)) | (unfold CHold; (k_dflt (refine' mkBE _ _ _ _ _ _ _ _ _ _ _ _ _ _ _ _ _ _ _ _ _ _ _ _ _ ?B ?F ?X ?N ?T ?hk ?hd ?hu ?_; (case B => k_asm); (case F => k_asm); (case X => k_asm); (case N => k_asm); (case T => k_asm); (case hk => exact rfl); (case hd => first | exact roomD (by assumption) (by decide) | ((try dsimp only [ctx] at *); omega)); (case hu => first | exact roomC (by assumption) (by decide) | exact roomU (by assumption) (by decide) | ((try dsimp only [ctx] at *); omega)); k_whole); intro x8 d8 t8 h8 k8 u8 v8 F8 N8 e8 n8; (try k_sweep); (try dsimp only)))); k_steps))
  (refine ⟨_, _, _, rfl, X.keeps (Fr.keep (by k_asm)), News.get (by k_asm) (.tail _ (.head _)), ?_⟩; (try k_unfold); (try dsimp only); refine leave_made B (by k_asm) (by k_asm) (by assumption) fun hh1 fl1 sm1 => ?_; refine rai _ _ _ _ _ ?_ fl1 sm1)
  exact ⟨rfl, _, rfl⟩
theorem tok_tilde (w : World) (row : Str) (tr : Tok) (a : Nat) (ta : Tok) (hr : row.length ≤ 1000) (hc : row.cps.toList[a]? = some 126) : Tell w 60 149 [.str row tr, .int (a : Int) ta] (fun _ => True)
    (fun g h' v => False) (fun c v => c = "SN" ∧ ∃ tk, v = .int (a : Int) tk) := by
  unfold Tell
  intro mean mg mb dp un gd l base g gs dr tk os Q E B XB TB hd' hu hP ret rai
  revert XB; k_fill; intro XB
  have cLi := cLine_is
  have reci : recursionLimit = 1000 := rfl
  refine wpAny_call ?_
  k_dflt (refine' enterP (l0 := [("at", _), ("row", _)]) ?k1 ?k2 ?k3 ?k6 ?k7 ?k8 ?k9 ?kl ?kB ?_ ?c2 ?c3 ?c4 ?c5; (case k1 => exact B); (case k2 => exact XB); (case k3 => exact TB); (case k6 => k_is); (case k7 => k_is); (case k8 => exact roomZ hd'); (case k9 => exact BindsTo.of_eq rfl); (case kl => exact rfl); (case c5 => decide); (case kB => exact locs rfl); (case c2 => exact rfl); (case c3 => exact rfl); (case c4 => exact rfl); k_whole)
  intro L' h' tk0 F' N' X T
  dsimp only
  k_fold
  (k_with_none; (k_with "ne" => (first | exact ne_gt (by with_reducible assumption) | exact ne_lt (by with_reducible assumption) | with_reducible assumption | exact Ne.symm (by with_reducible assumption) | exact ne_gt (And.left (by with_reducible assumption)) | exact ne_gt (And.left (And.right (by with_reducible assumption))) | exact ne_gt (And.right (by with_reducible assumption)) | exact ne_gt (And.right (And.right (by with_reducible assumption))) | exact ne_lt (And.left (by with_reducible assumption)) | exact ne_lt (And.left (And.right (by with_reducible assumption))) | exact ne_lt (And.right (by with_reducible assumption)) | exact ne_lt (And.right (And.right (by with_reducible assumption))))); (k_with "subscriptTail Name Name str int" => (refine item_c (by assumption) (by assumption) ?_)); (k_with "ite" => (k_closed; first | refine ite_pos (by decide +kernel) ?_ | refine ite_neg (by decide +kernel) ?_)); (k_with "call ref" => refine hold34 ?_); (k_with "exec Raise some none" => refine Raise_be rfl ?_); (k_with "call ref" => refine hold67 ?_); (k_with "call ref" => refine hold60 ?_); k_steps; repeat' ((first | (k_dflt (refine' Tell.useE (isLetter _ _ _) ?B ?F ?N ?XB ?TB ?hk ?hd ?hu ?hp ?_); (case B => k_asm); (case F => k_asm); (case N => k_asm); (case XB => k_asm); (case TB => k_asm); (case hk => exact rfl); (case hd => first | exact roomD (by assumption) (by decide) | ((try dsimp only [ctx] at *); omega)); (case hu => first | exact roomC (by assumption) (by decide) | exact roomU (by assumption) (by decide) | ((try dsimp only [ctx] at *); omega)); (case hp => first | trivial | assumption);  k_whole; intro h9 tk9 F9 N9; (try k_sweep); (try dsimp only)) | (k_dflt (refine' Tell.useE (isFigure _ _ _) ?B ?F ?N ?XB ?TB ?hk ?hd ?hu ?hp ?_); (case B => k_asm); (case F => k_asm); (case N => k_asm); (case XB => k_asm); (case TB => k_asm); (case hk => exact rfl); (case hd => first | exact roomD (by assumption) (by decide) | ((try dsimp only [ctx] at *); omega)); (case hu => first | exact roomC (by assumption) (by decide) | exact roomU (by assumption) (by decide) | ((try dsimp only [ctx] at *); omega)); (case hp => first | trivial | assumption);  k_whole; intro h9 tk9 F9 N9; (try k_sweep); (try dsimp only)) | (unfold CHold; (k_dflt (refine' mkBE _ _ _ _ _ _ _ _ _ _ _ _ _ _ _ _ _ _ _ _ _ _ _ _ _ ?B ?F ?X ?N ?T ?hk ?hd ?hu ?_; (case B => k_asm); (case F => k_asm); (case X => k_asm); (case N => k_asm); (case T => k_asm); (case hk => exact rfl); (case hd => first | exact roomD (by assumption) (by decide) | ((try dsimp only [ctx] at *); omega)); (case hu => first | exact roomC (by assumption) (by decide) | exact roomU (by assumption) (by decide) | ((try dsimp only [ctx] at *); omega)); k_whole); intro x8 d8 t8 h8 k8 u8 v8 F8 N8 e8 n8; (try k_sweep); (try dsimp only)))); k_steps))
  (refine ⟨_, _, _, rfl, X.keeps (Fr.keep (by k_asm)), News.get (by k_asm) (.tail _ (.head _)), ?_⟩; (try k_unfold); (try dsimp only); refine leave_made B (by k_asm) (by k_asm) (by assumption) fun hh1 fl1 sm1 => ?_; refine rai _ _ _ _ _ ?_ fl1 sm1)
  exact ⟨rfl, _, rfl⟩
theorem tok_cent (w : World) (row : Str) (tr : Tok) (a : Nat) (ta : Tok) (hr : row.length ≤ 1000) (hc : row.cps.toList[a]? = some 37) : Tell w 60 149 [.str row tr, .int (a : Int) ta] (fun _ => True)
    (fun g h' v => False) (fun c v => c = "SN" ∧ ∃ tk, v = .int (a : Int) tk) := by
  unfold Tell
  intro mean mg mb dp un gd l base g gs dr tk os Q E B XB TB hd' hu hP ret rai
  revert XB; k_fill; intro XB
  have cLi := cLine_is
  have reci : recursionLimit = 1000 := rfl
  refine wpAny_call ?_
  k_dflt (refine' enterP (l0 := [("at", _), ("row", _)]) ?k1 ?k2 ?k3 ?k6 ?k7 ?k8 ?k9 ?kl ?kB ?_ ?c2 ?c3 ?c4 ?c5; (case k1 => exact B); (case k2 => exact XB); (case k3 => exact TB); (case k6 => k_is); (case k7 => k_is); (case k8 => exact roomZ hd'); (case k9 => exact BindsTo.of_eq rfl); (case kl => exact rfl); (case c5 => decide); (case kB => exact locs rfl); (case c2 => exact rfl); (case c3 => exact rfl); (case c4 => exact rfl); k_whole)
  intro L' h' tk0 F' N' X T
  dsimp only
  k_fold
  (k_with_none; (k_with "ne" => (first | exact ne_gt (by with_reducible assumption) | exact ne_lt (by with_reducible assumption) | with_reducible assumption | exact Ne.symm (by with_reducible assumption) | exact ne_gt (And.left (by with_reducible assumption)) | exact ne_gt (And.left (And.right (by with_reducible assumption))) | exact ne_gt (And.right (by with_reducible assumption)) | exact ne_gt (And.right (And.right (by with_reducible assumption))) | exact ne_lt (And.left (by with_reducible assumption)) | exact ne_lt (And.left (And.right (by with_reducible assumption))) | exact ne_lt (And.right (by with_reducible assumption)) | exact ne_lt (And.right (And.right (by with_reducible assumption))))); (k_with "subscriptTail Name Name str int" => (refine item_c (by assumption) (by assumption) ?_)); (k_with "ite" => (k_closed; first | refine ite_pos (by decide +kernel) ?_ | refine ite_neg (by decide +kernel) ?_)); (k_with "call ref" => refine hold34 ?_); (k_with "exec Raise some none" => refine Raise_be rfl ?_); (k_with "call ref" => refine hold67 ?_); (k_with "call ref" => refine hold60 ?_); k_steps; repeat' ((first | (k_dflt (refine' Tell.useE (isLetter _ _ _) ?B ?F ?N ?XB ?TB ?hk ?hd ?hu ?hp ?_); (case B => k_asm); (case F => k_asm); (case N => k_asm); (case XB => k_asm); (case TB => k_asm); (case hk => exact rfl); (case hd => first | exact roomD (by assumption) (by decide) | ((try dsimp only [ctx] at *); omega)); (case hu => first | exact roomC (by assumption) (by decide) | exact roomU (by assumption) (by decide) | ((try dsimp only [ctx] at *); omega)); (case hp => first | trivial | assumption);  k_whole; intro h9 tk9 F9 N9; (try k_sweep); (try dsimp only)) | (k_dflt (refine' Tell.useE (isFigure _ _ _) ?B ?F ?N ?XB ?TB ?hk ?hd ?hu ?hp ?_); (case B => k_asm); (case F => k_asm); (case N => k_asm); (case XB => k_asm); (case TB => k_asm); (case hk => exact rfl); (case hd => first | exact roomD (by assumption) (by decide) | ((try dsimp only [ctx] at *); omega)); (case hu => first | exact roomC (by assumption) (by decide) | exact roomU (by assumption) (by decide) | ((try dsimp only [ctx] at *); omega)); (case hp => first | trivial | assumption);  k_whole; intro h9 tk9 F9 N9; (try k_sweep); (try dsimp only)) | (unfold CHold; (k_dflt (refine' mkBE _ _ _ _ _ _ _ _ _ _ _ _ _ _ _ _ _ _ _ _ _ _ _ _ _ ?B ?F ?X ?N ?T ?hk ?hd ?hu ?_; (case B => k_asm); (case F => k_asm); (case X => k_asm); (case N => k_asm); (case T => k_asm); (case hk => exact rfl); (case hd => first | exact roomD (by assumption) (by decide) | ((try dsimp only [ctx] at *); omega)); (case hu => first | exact roomC (by assumption) (by decide) | exact roomU (by assumption) (by decide) | ((try dsimp only [ctx] at *); omega)); k_whole); intro x8 d8 t8 h8 k8 u8 v8 F8 N8 e8 n8; (try k_sweep); (try dsimp only)))); k_steps))
  (refine ⟨_, _, _, rfl, X.keeps (Fr.keep (by k_asm)), News.get (by k_asm) (.tail _ (.head _)), ?_⟩; (try k_unfold); (try dsimp only); refine leave_made B (by k_asm) (by k_asm) (by assumption) fun hh1 fl1 sm1 => ?_; refine rai _ _ _ _ _ ?_ fl1 sm1)
  exact ⟨rfl, _, rfl⟩
theorem tok_dotbad (w : World) (row : Str) (tr : Tok) (a : Nat) (ta : Tok) (hr : row.length ≤ 1000) (hlow : Low row) (hc : row.cps.toList[a]? = some 46) (hf : isFig1 (Txt.slice row (some ((a : Int) + 1)) (some ((a : Int) + 2))) = false) : Tell w 60 149 [.str row tr, .int (a : Int) ta] (fun _ => True)
    (fun g h' v => False) (fun c v => c = "SN" ∧ ∃ tk, v = .int (a : Int) tk) := by
  unfold Tell
  intro mean mg mb dp un gd l base g gs dr tk os Q E B XB TB hd' hu hP ret rai
  revert XB; k_fill; intro XB
  have cLi := cLine_is
  have reci : recursionLimit = 1000 := rfl
  refine wpAny_call ?_
  k_dflt (refine' enterP (l0 := [("at", _), ("row", _)]) ?k1 ?k2 ?k3 ?k6 ?k7 ?k8 ?k9 ?kl ?kB ?_ ?c2 ?c3 ?c4 ?c5; (case k1 => exact B); (case k2 => exact XB); (case k3 => exact TB); (case k6 => k_is); (case k7 => k_is); (case k8 => exact roomZ hd'); (case k9 => exact BindsTo.of_eq rfl); (case kl => exact rfl); (case c5 => decide); (case kB => exact locs rfl); (case c2 => exact rfl); (case c3 => exact rfl); (case c4 => exact rfl); k_whole)
  intro L' h' tk0 F' N' X T
  dsimp only
  k_fold
  (k_with_none; (k_with "ne" => (first | exact ne_gt (by with_reducible assumption) | exact ne_lt (by with_reducible assumption) | with_reducible assumption | exact Ne.symm (by with_reducible assumption) | exact ne_gt (And.left (by with_reducible assumption)) | exact ne_gt (And.left (And.right (by with_reducible assumption))) | exact ne_gt (And.right (by with_reducible assumption)) | exact ne_gt (And.right (And.right (by with_reducible assumption))) | exact ne_lt (And.left (by with_reducible assumption)) | exact ne_lt (And.left (And.right (by with_reducible assumption))) | exact ne_lt (And.right (by with_reducible assumption)) | exact ne_lt (And.right (And.right (by with_reducible assumption))))); (k_with "subscriptTail Name Name str int" => (refine item_c (by assumption) (by assumption) ?_)); (k_with "ite" => (k_closed; first | refine ite_pos (by decide +kernel) ?_ | refine ite_neg (by decide +kernel) ?_)); (k_with "call ref" => refine hold34 ?_); (k_with "exec Raise some none" => refine Raise_be rfl ?_); (k_with "call ref" => refine hold67 ?_); (k_with "call ref" => refine hold60 ?_); k_steps; repeat' ((first | (k_dflt (refine' Tell.useE (isLetter _ _ _) ?B ?F ?N ?XB ?TB ?hk ?hd ?hu ?hp ?_); (case B => k_asm); (case F => k_asm); (case N => k_asm); (case XB => k_asm); (case TB => k_asm); (case hk => exact rfl); (case hd => first | exact roomD (by assumption) (by decide) | ((try dsimp only [ctx] at *); omega)); (case hu => first | exact roomC (by assumption) (by decide) | exact roomU (by assumption) (by decide) | ((try dsimp only [ctx] at *); omega)); (case hp => first | trivial | assumption);  k_whole; intro h9 tk9 F9 N9; (try k_sweep); (try dsimp only)) | (k_dflt (refine' Tell.useE (isFigure _ _ _) ?B ?F ?N ?XB ?TB ?hk ?hd ?hu ?hp ?_); (case B => k_asm); (case F => k_asm); (case N => k_asm); (case XB => k_asm); (case TB => k_asm); (case hk => exact rfl); (case hd => first | exact roomD (by assumption) (by decide) | ((try dsimp only [ctx] at *); omega)); (case hu => first | exact roomC (by assumption) (by decide) | exact roomU (by assumption) (by decide) | ((try dsimp only [ctx] at *); omega)); (case hp => first | trivial | assumption);  k_whole; intro h9 tk9 F9 N9; (try k_sweep); (try dsimp only)) | (unfold CHold; (k_dflt (refine' mkBE _ _ _ _ _ _ _ _ _ _ _ _ _ _ _ _ _ _ _ _ _ _ _ _ _ ?B ?F ?X ?N ?T ?hk ?hd ?hu ?_; (case B => k_asm); (case F => k_asm); (case X => k_asm); (case N => k_asm); (case T => k_asm); (case hk => exact rfl); (case hd => first | exact roomD (by assumption) (by decide) | ((try dsimp only [ctx] at *); omega)); (case hu => first | exact roomC (by assumption) (by decide) | exact roomU (by assumption) (by decide) | ((try dsimp only [ctx] at *); omega)); k_whole); intro x8 d8 t8 h8 k8 u8 v8 F8 N8 e8 n8; (try k_sweep); (try dsimp only)))); k_steps))
  all_goals (try (have hno : isFig1 (Txt.slice row (some ((a : Int) + 1)) (some ((a : Int) + 2))) = true := by assumption
                  rw [hf] at hno; cases hno))
  (refine ⟨_, _, _, rfl, X.keeps (Fr.keep (by k_asm)), News.get (by k_asm) (.tail _ (.head _)), ?_⟩; (try k_unfold); (try dsimp only); refine leave_made B (by k_asm) (by k_asm) (by assumption) fun hh1 fl1 sm1 => ?_; refine rai _ _ _ _ _ ?_ fl1 sm1)
  exact ⟨rfl, _, rfl⟩

theorem tok_P (w : World) (row : Str) (tr : Tok) (a : Nat) (ta : Tok) (hr : row.length ≤ 1000) (hlow : Low row) (hc : row.cps.toList[a]? = some 80)
    (h1 : Txt.slice row (some (a : Int)) (some ((nameE row.cps.toList a : Nat) : Int)) ≠ "REM") (h2 : Txt.slice row (some (a : Int)) (some ((nameE row.cps.toList a : Nat) : Int)) ≠ "DATA") : Tell w 60 149 [.str row tr, .int (a : Int) ta] (fun _ => True)
    (fun g h' v => TokRet g h' v (nameE row.cps.toList a : Nat)) (fun _ _ => False) := by
  unfold Tell
  intro mean mg mb dp un gd l base g gs dr tk os Q E B XB TB hd' hu hP ret rai
  revert XB; k_fill; intro XB
  have cLi := cLine_is
  have reci : recursionLimit = 1000 := rfl
  refine wpAny_call ?_
  k_dflt (refine' enterP (l0 := [("at", _), ("row", _)]) ?k1 ?k2 ?k3 ?k6 ?k7 ?k8 ?k9 ?kl ?kB ?_ ?c2 ?c3 ?c4 ?c5; (case k1 => exact B); (case k2 => exact XB); (case k3 => exact TB); (case k6 => k_is); (case k7 => k_is); (case k8 => exact roomZ hd'); (case k9 => exact BindsTo.of_eq rfl); (case kl => exact rfl); (case c5 => decide); (case kB => exact locs rfl); (case c2 => exact rfl); (case c3 => exact rfl); (case c4 => exact rfl); k_whole)
  intro L' h' tk0 F' N' X T
  dsimp only
  k_fold
  (k_with_none; (k_with "ne" => (first | exact ne_gt (by with_reducible assumption) | exact ne_lt (by with_reducible assumption) | with_reducible assumption | exact Ne.symm (by with_reducible assumption) | exact ne_gt (And.left (by with_reducible assumption)) | exact ne_gt (And.left (And.right (by with_reducible assumption))) | exact ne_gt (And.right (by with_reducible assumption)) | exact ne_gt (And.right (And.right (by with_reducible assumption))) | exact ne_lt (And.left (by with_reducible assumption)) | exact ne_lt (And.left (And.right (by with_reducible assumption))) | exact ne_lt (And.right (by with_reducible assumption)) | exact ne_lt (And.right (And.right (by with_reducible assumption))))); (k_with "subscriptTail Name Name str int" => (refine item_c (by assumption) (by assumption) ?_)); (k_with "ite" => (k_closed; first | refine ite_pos (by decide +kernel) ?_ | refine ite_neg (by decide +kernel) ?_)); (k_with "call ref" => refine hold34 ?_); (k_with "exec Raise some none" => refine Raise_be rfl ?_); (k_with "call ref" => refine hold67 ?_); (k_with "call ref" => refine hold60 ?_); (k_with "call ref" => refine hold142 ?_); k_steps; repeat' ((first | (unfold CHold; (k_dflt (refine' Tell.useU (wordP _ _ _ _ _ ?q1 ?q2 ?q3 ?q4) ?B ?F ?N ?XB ?TB ?hk ?hd ?hu ?hp ?_ ?_); (case B => k_asm); (case F => k_asm); (case N => k_asm); (case XB => k_asm); (case TB => k_asm); (case hk => exact rfl); (case hd => first | exact roomD (by assumption) (by decide) | ((try dsimp only [ctx] at *); omega)); (case hu => first | exact roomC (by assumption) (by decide) | exact roomU (by assumption) (by decide) | ((try dsimp only [ctx] at *); omega)); (case hp => first | trivial | assumption); (case q1 => assumption); (case q2 => assumption); (case q3 => assumption); (case q4 => assumption); (try any_goals (exact fun _ _ _ _ _ z => z.elim)); k_whole; intro v9 h9 tk9 u9 F9 N9 r9; (try dsimp only at r9);  (try k_sweep); (try dsimp only))) | (k_dflt (refine' Tell.useE (isLetter _ _ _) ?B ?F ?N ?XB ?TB ?hk ?hd ?hu ?hp ?_); (case B => k_asm); (case F => k_asm); (case N => k_asm); (case XB => k_asm); (case TB => k_asm); (case hk => exact rfl); (case hd => first | exact roomD (by assumption) (by decide) | ((try dsimp only [ctx] at *); omega)); (case hu => first | exact roomC (by assumption) (by decide) | exact roomU (by assumption) (by decide) | ((try dsimp only [ctx] at *); omega)); (case hp => first | trivial | assumption);  k_whole; intro h9 tk9 F9 N9; (try k_sweep); (try dsimp only)) | (k_dflt (refine' Tell.useE (isFigure _ _ _) ?B ?F ?N ?XB ?TB ?hk ?hd ?hu ?hp ?_); (case B => k_asm); (case F => k_asm); (case N => k_asm); (case XB => k_asm); (case TB => k_asm); (case hk => exact rfl); (case hd => first | exact roomD (by assumption) (by decide) | ((try dsimp only [ctx] at *); omega)); (case hu => first | exact roomC (by assumption) (by decide) | exact roomU (by assumption) (by decide) | ((try dsimp only [ctx] at *); omega)); (case hp => first | trivial | assumption);  k_whole; intro h9 tk9 F9 N9; (try k_sweep); (try dsimp only)) | (unfold CHold; (k_dflt (refine' mkBE _ _ _ _ _ _ _ _ _ _ _ _ _ _ _ _ _ _ _ _ _ _ _ _ _ ?B ?F ?X ?N ?T ?hk ?hd ?hu ?_; (case B => k_asm); (case F => k_asm); (case X => k_asm); (case N => k_asm); (case T => k_asm); (case hk => exact rfl); (case hd => first | exact roomD (by assumption) (by decide) | ((try dsimp only [ctx] at *); omega)); (case hu => first | exact roomC (by assumption) (by decide) | exact roomU (by assumption) (by decide) | ((try dsimp only [ctx] at *); omega)); k_whole); intro x8 d8 t8 h8 k8 u8 v8 F8 N8 e8 n8; (try k_sweep); (try dsimp only)))); k_steps))
  ((try dsimp only); (try (first | k_unfold | dsimp only [qk])); (try dsimp only); unfold LeaveP; dsimp only; refine ret _ _ _ (Fr.keep (by k_asm)) ?_; try dsimp only)
  rename TokRet _ _ _ _ => r9
  obtain ⟨tk9, ad, l9, x, n, e1, e2, e3, e4, e5, e6⟩ := r9
  rename (∀ b, _ = none → _) => u9
  exact ⟨tk9, ad, l9, x, n, e1, (u9 _ e2).1, e3, e4, (u9 _ e5).1, e6⟩
theorem tok_A (w : World) (row : Str) (tr : Tok) (a : Nat) (ta : Tok) (hr : row.length ≤ 1000) (hlow : Low row) (hc : row.cps.toList[a]? = some 65)
    (h1 : Txt.slice row (some (a : Int)) (some ((nameE row.cps.toList a : Nat) : Int)) ≠ "REM") (h2 : Txt.slice row (some (a : Int)) (some ((nameE row.cps.toList a : Nat) : Int)) ≠ "DATA") : Tell w 60 149 [.str row tr, .int (a : Int) ta] (fun _ => True)
    (fun g h' v => TokRet g h' v (nameE row.cps.toList a : Nat)) (fun _ _ => False) := by
  unfold Tell
  intro mean mg mb dp un gd l base g gs dr tk os Q E B XB TB hd' hu hP ret rai
  revert XB; k_fill; intro XB
  have cLi := cLine_is
  have reci : recursionLimit = 1000 := rfl
  refine wpAny_call ?_
  k_dflt (refine' enterP (l0 := [("at", _), ("row", _)]) ?k1 ?k2 ?k3 ?k6 ?k7 ?k8 ?k9 ?kl ?kB ?_ ?c2 ?c3 ?c4 ?c5; (case k1 => exact B); (case k2 => exact XB); (case k3 => exact TB); (case k6 => k_is); (case k7 => k_is); (case k8 => exact roomZ hd'); (case k9 => exact BindsTo.of_eq rfl); (case kl => exact rfl); (case c5 => decide); (case kB => exact locs rfl); (case c2 => exact rfl); (case c3 => exact rfl); (case c4 => exact rfl); k_whole)
  intro L' h' tk0 F' N' X T
  dsimp only
  k_fold
  (k_with_none; (k_with "ne" => (first | exact ne_gt (by with_reducible assumption) | exact ne_lt (by with_reducible assumption) | with_reducible assumption | exact Ne.symm (by with_reducible assumption) | exact ne_gt (And.left (by with_reducible assumption)) | exact ne_gt (And.left (And.right (by with_reducible assumption))) | exact ne_gt (And.right (by with_reducible assumption)) | exact ne_gt (And.right (And.right (by with_reducible assumption))) | exact ne_lt (And.left (by with_reducible assumption)) | exact ne_lt (And.left (And.right (by with_reducible assumption))) | exact ne_lt (And.right (by with_reducible assumption)) | exact ne_lt (And.right (And.right (by with_reducible assumption))))); (k_with "subscriptTail Name Name str int" => (refine item_c (by assumption) (by assumption) ?_)); (k_with "ite" => (k_closed; first | refine ite_pos (by decide +kernel) ?_ | refine ite_neg (by decide +kernel) ?_)); (k_with "call ref" => refine hold34 ?_); (k_with "exec Raise some none" => refine Raise_be rfl ?_); (k_with "call ref" => refine hold67 ?_); (k_with "call ref" => refine hold60 ?_); (k_with "call ref" => refine hold142 ?_); k_steps; repeat' ((first | (unfold CHold; (k_dflt (refine' Tell.useU (wordP _ _ _ _ _ ?q1 ?q2 ?q3 ?q4) ?B ?F ?N ?XB ?TB ?hk ?hd ?hu ?hp ?_ ?_); (case B => k_asm); (case F => k_asm); (case N => k_asm); (case XB => k_asm); (case TB => k_asm); (case hk => exact rfl); (case hd => first | exact roomD (by assumption) (by decide) | ((try dsimp only [ctx] at *); omega)); (case hu => first | exact roomC (by assumption) (by decide) | exact roomU (by assumption) (by decide) | ((try dsimp only [ctx] at *); omega)); (case hp => first | trivial | assumption); (case q1 => assumption); (case q2 => assumption); (case q3 => assumption); (case q4 => assumption); (try any_goals (exact fun _ _ _ _ _ z => z.elim)); k_whole; intro v9 h9 tk9 u9 F9 N9 r9; (try dsimp only at r9);  (try k_sweep); (try dsimp only))) | (k_dflt (refine' Tell.useE (isLetter _ _ _) ?B ?F ?N ?XB ?TB ?hk ?hd ?hu ?hp ?_); (case B => k_asm); (case F => k_asm); (case N => k_asm); (case XB => k_asm); (case TB => k_asm); (case hk => exact rfl); (case hd => first | exact roomD (by assumption) (by decide) | ((try dsimp only [ctx] at *); omega)); (case hu => first | exact roomC (by assumption) (by decide) | exact roomU (by assumption) (by decide) | ((try dsimp only [ctx] at *); omega)); (case hp => first | trivial | assumption);  k_whole; intro h9 tk9 F9 N9; (try k_sweep); (try dsimp only)) | (k_dflt (refine' Tell.useE (isFigure _ _ _) ?B ?F ?N ?XB ?TB ?hk ?hd ?hu ?hp ?_); (case B => k_asm); (case F => k_asm); (case N => k_asm); (case XB => k_asm); (case TB => k_asm); (case hk => exact rfl); (case hd => first | exact roomD (by assumption) (by decide) | ((try dsimp only [ctx] at *); omega)); (case hu => first | exact roomC (by assumption) (by decide) | exact roomU (by assumption) (by decide) | ((try dsimp only [ctx] at *); omega)); (case hp => first | trivial | assumption);  k_whole; intro h9 tk9 F9 N9; (try k_sweep); (try dsimp only)) | (unfold CHold; (k_dflt (refine' mkBE _ _ _ _ _ _ _ _ _ _ _ _ _ _ _ _ _ _ _ _ _ _ _ _ _ ?B ?F ?X ?N ?T ?hk ?hd ?hu ?_; (case B => k_asm); (case F => k_asm); (case X => k_asm); (case N => k_asm); (case T => k_asm); (case hk => exact rfl); (case hd => first | exact roomD (by assumption) (by decide) | ((try dsimp only [ctx] at *); omega)); (case hu => first | exact roomC (by assumption) (by decide) | exact roomU (by assumption) (by decide) | ((try dsimp only [ctx] at *); omega)); k_whole); intro x8 d8 t8 h8 k8 u8 v8 F8 N8 e8 n8; (try k_sweep); (try dsimp only)))); k_steps))
  ((try dsimp only); (try (first | k_unfold | dsimp only [qk])); (try dsimp only); unfold LeaveP; dsimp only; refine ret _ _ _ (Fr.keep (by k_asm)) ?_; try dsimp only)
  rename TokRet _ _ _ _ => r9
  obtain ⟨tk9, ad, l9, x, n, e1, e2, e3, e4, e5, e6⟩ := r9
  rename (∀ b, _ = none → _) => u9
  exact ⟨tk9, ad, l9, x, n, e1, (u9 _ e2).1, e3, e4, (u9 _ e5).1, e6⟩
theorem tok_X (w : World) (row : Str) (tr : Tok) (a : Nat) (ta : Tok) (hr : row.length ≤ 1000) (hlow : Low row) (hc : row.cps.toList[a]? = some 88)
    (h1 : Txt.slice row (some (a : Int)) (some ((nameE row.cps.toList a : Nat) : Int)) ≠ "REM") (h2 : Txt.slice row (some (a : Int)) (some ((nameE row.cps.toList a : Nat) : Int)) ≠ "DATA") : Tell w 60 149 [.str row tr, .int (a : Int) ta] (fun _ => True)
    (fun g h' v => TokRet g h' v (nameE row.cps.toList a : Nat)) (fun _ _ => False) := by
  unfold Tell
  intro mean mg mb dp un gd l base g gs dr tk os Q E B XB TB hd' hu hP ret rai
  revert XB; k_fill; intro XB
  have cLi := cLine_is
  have reci : recursionLimit = 1000 := rfl
  refine wpAny_call ?_
  k_dflt (refine' enterP (l0 := [("at", _), ("row", _)]) ?k1 ?k2 ?k3 ?k6 ?k7 ?k8 ?k9 ?kl ?kB ?_ ?c2 ?c3 ?c4 ?c5; (case k1 => exact B); (case k2 => exact XB); (case k3 => exact TB); (case k6 => k_is); (case k7 => k_is); (case k8 => exact roomZ hd'); (case k9 => exact BindsTo.of_eq rfl); (case kl => exact rfl); (case c5 => decide); (case kB => exact locs rfl); (case c2 => exact rfl); (case c3 => exact rfl); (case c4 => exact rfl); k_whole)
  intro L' h' tk0 F' N' X T
  dsimp only
  k_fold
  (k_with_none; (k_with "ne" => (first | exact ne_gt (by with_reducible assumption) | exact ne_lt (by with_reducible assumption) | with_reducible assumption | exact Ne.symm (by with_reducible assumption) | exact ne_gt (And.left (by with_reducible assumption)) | exact ne_gt (And.left (And.right (by with_reducible assumption))) | exact ne_gt (And.right (by with_reducible assumption)) | exact ne_gt (And.right (And.right (by with_reducible assumption))) | exact ne_lt (And.left (by with_reducible assumption)) | exact ne_lt (And.left (And.right (by with_reducible assumption))) | exact ne_lt (And.right (by with_reducible assumption)) | exact ne_lt (And.right (And.right (by with_reducible assumption))))); (k_with "subscriptTail Name Name str int" => (refine item_c (by assumption) (by assumption) ?_)); (k_with "ite" => (k_closed; first | refine ite_pos (by decide +kernel) ?_ | refine ite_neg (by decide +kernel) ?_)); (k_with "call ref" => refine hold34 ?_); (k_with "exec Raise some none" => refine Raise_be rfl ?_); (k_with "call ref" => refine hold67 ?_); (k_with "call ref" => refine hold60 ?_); (k_with "call ref" => refine hold142 ?_); k_steps; repeat' ((first | (unfold CHold; (k_dflt (refine' Tell.useU (wordP _ _ _ _ _ ?q1 ?q2 ?q3 ?q4) ?B ?F ?N ?XB ?TB ?hk ?hd ?hu ?hp ?_ ?_); (case B => k_asm); (case F => k_asm); (case N => k_asm); (case XB => k_asm); (case TB => k_asm); (case hk => exact rfl); (case hd => first | exact roomD (by assumption) (by decide) | ((try dsimp only [ctx] at *); omega)); (case hu => first | exact roomC (by assumption) (by decide) | exact roomU (by assumption) (by decide) | ((try dsimp only [ctx] at *); omega)); (case hp => first | trivial | assumption); (case q1 => assumption); (case q2 => assumption); (case q3 => assumption); (case q4 => assumption); (try any_goals (exact fun _ _ _ _ _ z => z.elim)); k_whole; intro v9 h9 tk9 u9 F9 N9 r9; (try dsimp only at r9);  (try k_sweep); (try dsimp only))) | (k_dflt (refine' Tell.useE (isLetter _ _ _) ?B ?F ?N ?XB ?TB ?hk ?hd ?hu ?hp ?_); (case B => k_asm); (case F => k_asm); (case N => k_asm); (case XB => k_asm); (case TB => k_asm); (case hk => exact rfl); (case hd => first | exact roomD (by assumption) (by decide) | ((try dsimp only [ctx] at *); omega)); (case hu => first | exact roomC (by assumption) (by decide) | exact roomU (by assumption) (by decide) | ((try dsimp only [ctx] at *); omega)); (case hp => first | trivial | assumption);  k_whole; intro h9 tk9 F9 N9; (try k_sweep); (try dsimp only)) | (k_dflt (refine' Tell.useE (isFigure _ _ _) ?B ?F ?N ?XB ?TB ?hk ?hd ?hu ?hp ?_); (case B => k_asm); (case F => k_asm); (case N => k_asm); (case XB => k_asm); (case TB => k_asm); (case hk => exact rfl); (case hd => first | exact roomD (by assumption) (by decide) | ((try dsimp only [ctx] at *); omega)); (case hu => first | exact roomC (by assumption) (by decide) | exact roomU (by assumption) (by decide) | ((try dsimp only [ctx] at *); omega)); (case hp => first | trivial | assumption);  k_whole; intro h9 tk9 F9 N9; (try k_sweep); (try dsimp only)) | (unfold CHold; (k_dflt (refine' mkBE _ _ _ _ _ _ _ _ _ _ _ _ _ _ _ _ _ _ _ _ _ _ _ _ _ ?B ?F ?X ?N ?T ?hk ?hd ?hu ?_; (case B => k_asm); (case F => k_asm); (case X => k_asm); (case N => k_asm); (case T => k_asm); (case hk => exact rfl); (case hd => first | exact roomD (by assumption) (by decide) | ((try dsimp only [ctx] at *); omega)); (case hu => first | exact roomC (by assumption) (by decide) | exact roomU (by assumption) (by decide) | ((try dsimp only [ctx] at *); omega)); k_whole); intro x8 d8 t8 h8 k8 u8 v8 F8 N8 e8 n8; (try k_sweep); (try dsimp only)))); k_steps))
  ((try dsimp only); (try (first | k_unfold | dsimp only [qk])); (try dsimp only); unfold LeaveP; dsimp only; refine ret _ _ _ (Fr.keep (by k_asm)) ?_; try dsimp only)
  rename TokRet _ _ _ _ => r9
  obtain ⟨tk9, ad, l9, x, n, e1, e2, e3, e4, e5, e6⟩ := r9
  rename (∀ b, _ = none → _) => u9
  exact ⟨tk9, ad, l9, x, n, e1, (u9 _ e2).1, e3, e4, (u9 _ e5).1, e6⟩

theorem tok_one (w : World) (row : Str) (tr : Tok) (a : Nat) (ta : Tok) (hr : row.length ≤ 1000) (hlow : Low row) (hc : row.cps.toList[a]? = some 49) : Tell w 60 149 [.str row tr, .int (a : Int) ta] (fun _ => True)
    (fun g h' v => ∃ k z, (z = (a : Int) + (k : Nat) ∨ (z = (a : Int) + (k : Nat) + 1 ∧ heads [33, 37] (row.cps.toList.drop (a + k)) = true)) ∧ numT (row.cps.toList.drop a) = .ok k ∧ TokRet g h' v z)
    (fun c v => c = "OV" ∧ ∃ n tk, v = .int ((a + n : Nat) : Int) tk ∧ numT (row.cps.toList.drop a) = .error n) := by
  unfold Tell
  intro mean mg mb dp un gd l base g gs dr tk os Q E B XB TB hd' hu hP ret rai
  revert XB; k_fill; intro XB
  have cLi := cLine_is
  have reci : recursionLimit = 1000 := rfl
  refine wpAny_call ?_
  k_dflt (refine' enterP (l0 := [("at", _), ("row", _)]) ?k1 ?k2 ?k3 ?k6 ?k7 ?k8 ?k9 ?kl ?kB ?_ ?c2 ?c3 ?c4 ?c5; (case k1 => exact B); (case k2 => exact XB); (case k3 => exact TB); (case k6 => k_is); (case k7 => k_is); (case k8 => exact roomZ hd'); (case k9 => exact BindsTo.of_eq rfl); (case kl => exact rfl); (case c5 => decide); (case kB => exact locs rfl); (case c2 => exact rfl); (case c3 => exact rfl); (case c4 => exact rfl); k_whole)
  intro L' h' tk0 F' N' X T
  dsimp only
  k_fold
  (k_with_none; (k_with "ne" => (first | exact ne_gt (by with_reducible assumption) | exact ne_lt (by with_reducible assumption) | with_reducible assumption | exact Ne.symm (by with_reducible assumption) | exact ne_gt (And.left (by with_reducible assumption)) | exact ne_gt (And.left (And.right (by with_reducible assumption))) | exact ne_gt (And.right (by with_reducible assumption)) | exact ne_gt (And.right (And.right (by with_reducible assumption))) | exact ne_lt (And.left (by with_reducible assumption)) | exact ne_lt (And.left (And.right (by with_reducible assumption))) | exact ne_lt (And.right (by with_reducible assumption)) | exact ne_lt (And.right (And.right (by with_reducible assumption))))); (k_with "subscriptTail Name Name str int" => (refine item_c (by assumption) (by assumption) ?_)); (k_with "ite" => (k_closed; first | refine ite_pos (by decide +kernel) ?_ | refine ite_neg (by decide +kernel) ?_)); (k_with "call ref" => refine hold34 ?_); (k_with "exec Raise some none" => refine Raise_be rfl ?_); (k_with "call ref" => refine hold67 ?_); (k_with "call ref" => refine hold60 ?_); (k_with "call ref" => refine hold142 ?_); (k_with "call ref" => refine hold100 ?_); k_steps; repeat' ((first | (k_dflt (refine' Tell.useP (numberP _ _ _ _ _ ?q1 ?q2) ?B ?F ?N ?XB ?TB ?hk ?hd ?hu ?hp ?_ ?_); (case B => k_asm); (case F => k_asm); (case N => k_asm); (case XB => k_asm); (case TB => k_asm); (case hk => exact rfl); (case hd => first | exact roomD (by assumption) (by decide) | ((try dsimp only [ctx] at *); omega)); (case hu => first | exact roomC (by assumption) (by decide) | exact roomU (by assumption) (by decide) | ((try dsimp only [ctx] at *); omega)); (case hp => first | trivial | assumption); (case q1 => assumption); (case q2 => assumption); (rotate_left 1; intro e7 h7 k7 c7 v7 x7 fl7 sm7; (try k_unfold); (try dsimp only); refine leave_fly (by k_asm) (by k_asm) fl7 sm7 ?_; refine holdR ?_; rotate_right 1); k_whole; intro h9 tk9 z9 t9 a9 x9 e9 F9 N9 q9; (try dsimp only [AllNe] at q9); (try k_sweep); (try dsimp only)) | (unfold CHold; (k_dflt (refine' Tell.useU (wordP _ _ _ _ _ ?q1 ?q2 ?q3 ?q4) ?B ?F ?N ?XB ?TB ?hk ?hd ?hu ?hp ?_ ?_); (case B => k_asm); (case F => k_asm); (case N => k_asm); (case XB => k_asm); (case TB => k_asm); (case hk => exact rfl); (case hd => first | exact roomD (by assumption) (by decide) | ((try dsimp only [ctx] at *); omega)); (case hu => first | exact roomC (by assumption) (by decide) | exact roomU (by assumption) (by decide) | ((try dsimp only [ctx] at *); omega)); (case hp => first | trivial | assumption); (case q1 => assumption); (case q2 => assumption); (case q3 => assumption); (case q4 => assumption); (try any_goals (exact fun _ _ _ _ _ z => z.elim)); k_whole; intro v9 h9 tk9 u9 F9 N9 r9; (try dsimp only at r9);  (try k_sweep); (try dsimp only))) | (k_dflt (refine' Tell.useE (isLetter _ _ _) ?B ?F ?N ?XB ?TB ?hk ?hd ?hu ?hp ?_); (case B => k_asm); (case F => k_asm); (case N => k_asm); (case XB => k_asm); (case TB => k_asm); (case hk => exact rfl); (case hd => first | exact roomD (by assumption) (by decide) | ((try dsimp only [ctx] at *); omega)); (case hu => first | exact roomC (by assumption) (by decide) | exact roomU (by assumption) (by decide) | ((try dsimp only [ctx] at *); omega)); (case hp => first | trivial | assumption);  k_whole; intro h9 tk9 F9 N9; (try k_sweep); (try dsimp only)) | (k_dflt (refine' Tell.useE (isFigure _ _ _) ?B ?F ?N ?XB ?TB ?hk ?hd ?hu ?hp ?_); (case B => k_asm); (case F => k_asm); (case N => k_asm); (case XB => k_asm); (case TB => k_asm); (case hk => exact rfl); (case hd => first | exact roomD (by assumption) (by decide) | ((try dsimp only [ctx] at *); omega)); (case hu => first | exact roomC (by assumption) (by decide) | exact roomU (by assumption) (by decide) | ((try dsimp only [ctx] at *); omega)); (case hp => first | trivial | assumption);  k_whole; intro h9 tk9 F9 N9; (try k_sweep); (try dsimp only)) | (unfold CHold; (k_dflt (refine' mkBE _ _ _ _ _ _ _ _ _ _ _ _ _ _ _ _ _ _ _ _ _ _ _ _ _ ?B ?F ?X ?N ?T ?hk ?hd ?hu ?_; (case B => k_asm); (case F => k_asm); (case X => k_asm); (case N => k_asm); (case T => k_asm); (case hk => exact rfl); (case hd => first | exact roomD (by assumption) (by decide) | ((try dsimp only [ctx] at *); omega)); (case hu => first | exact roomC (by assumption) (by decide) | exact roomU (by assumption) (by decide) | ((try dsimp only [ctx] at *); omega)); k_whole); intro x8 d8 t8 h8 k8 u8 v8 F8 N8 e8 n8; (try k_sweep); (try dsimp only)))); k_steps))
  · ((try dsimp only); (try (first | k_unfold | dsimp only [qk])); (try dsimp only); unfold LeaveP; dsimp only; refine ret _ _ _ (Fr.keep (by k_asm)) ?_; try dsimp only)
    rename (∃ k, _ ∧ numT _ = _) => e9
    obtain ⟨k, hz, hn⟩ := e9
    refine ⟨k, _, hz, hn, _, _, _, _, _, rfl, News.fresh (by k_asm) (.head _), News.get (by k_asm) (.head _), ?_, News.fresh (by k_asm) (.tail _ (.head _)), News.get (by k_asm) (.tail _ (.head _))⟩
    refine neN ?_
    omega
  · unfold RHold
    intro hh fl sm
    exact rai _ _ _ _ _ (by assumption) fl sm
theorem tok_two (w : World) (row : Str) (tr : Tok) (a : Nat) (ta : Tok) (hr : row.length ≤ 1000) (hlow : Low row) (hc : row.cps.toList[a]? = some 50) : Tell w 60 149 [.str row tr, .int (a : Int) ta] (fun _ => True)
    (fun g h' v => ∃ k z, (z = (a : Int) + (k : Nat) ∨ (z = (a : Int) + (k : Nat) + 1 ∧ heads [33, 37] (row.cps.toList.drop (a + k)) = true)) ∧ numT (row.cps.toList.drop a) = .ok k ∧ TokRet g h' v z)
    (fun c v => c = "OV" ∧ ∃ n tk, v = .int ((a + n : Nat) : Int) tk ∧ numT (row.cps.toList.drop a) = .error n) := by
  unfold Tell
  intro mean mg mb dp un gd l base g gs dr tk os Q E B XB TB hd' hu hP ret rai
  revert XB; k_fill; intro XB
  have cLi := cLine_is
  have reci : recursionLimit = 1000 := rfl
  refine wpAny_call ?_
  k_dflt (refine' enterP (l0 := [("at", _), ("row", _)]) ?k1 ?k2 ?k3 ?k6 ?k7 ?k8 ?k9 ?kl ?kB ?_ ?c2 ?c3 ?c4 ?c5; (case k1 => exact B); (case k2 => exact XB); (case k3 => exact TB); (case k6 => k_is); (case k7 => k_is); (case k8 => exact roomZ hd'); (case k9 => exact BindsTo.of_eq rfl); (case kl => exact rfl); (case c5 => decide); (case kB => exact locs rfl); (case c2 => exact rfl); (case c3 => exact rfl); (case c4 => exact rfl); k_whole)
  intro L' h' tk0 F' N' X T
  dsimp only
  k_fold
  (k_with_none; (k_with "ne" => (first | exact ne_gt (by with_reducible assumption) | exact ne_lt (by with_reducible assumption) | with_reducible assumption | exact Ne.symm (by with_reducible assumption) | exact ne_gt (And.left (by with_reducible assumption)) | exact ne_gt (And.left (And.right (by with_reducible assumption))) | exact ne_gt (And.right (by with_reducible assumption)) | exact ne_gt (And.right (And.right (by with_reducible assumption))) | exact ne_lt (And.left (by with_reducible assumption)) | exact ne_lt (And.left (And.right (by with_reducible assumption))) | exact ne_lt (And.right (by with_reducible assumption)) | exact ne_lt (And.right (And.right (by with_reducible assumption))))); (k_with "subscriptTail Name Name str int" => (refine item_c (by assumption) (by assumption) ?_)); (k_with "ite" => (k_closed; first | refine ite_pos (by decide +kernel) ?_ | refine ite_neg (by decide +kernel) ?_)); (k_with "call ref" => refine hold34 ?_); (k_with "exec Raise some none" => refine Raise_be rfl ?_); (k_with "call ref" => refine hold67 ?_); (k_with "call ref" => refine hold60 ?_); (k_with "call ref" => refine hold142 ?_); (k_with "call ref" => refine hold100 ?_); k_steps; repeat' ((first | (k_dflt (refine' Tell.useP (numberP _ _ _ _ _ ?q1 ?q2) ?B ?F ?N ?XB ?TB ?hk ?hd ?hu ?hp ?_ ?_); (case B => k_asm); (case F => k_asm); (case N => k_asm); (case XB => k_asm); (case TB => k_asm); (case hk => exact rfl); (case hd => first | exact roomD (by assumption) (by decide) | ((try dsimp only [ctx] at *); omega)); (case hu => first | exact roomC (by assumption) (by decide) | exact roomU (by assumption) (by decide) | ((try dsimp only [ctx] at *); omega)); (case hp => first | trivial | assumption); (case q1 => assumption); (case q2 => assumption); (rotate_left 1; intro e7 h7 k7 c7 v7 x7 fl7 sm7; (try k_unfold); (try dsimp only); refine leave_fly (by k_asm) (by k_asm) fl7 sm7 ?_; refine holdR ?_; rotate_right 1); k_whole; intro h9 tk9 z9 t9 a9 x9 e9 F9 N9 q9; (try dsimp only [AllNe] at q9); (try k_sweep); (try dsimp only)) | (unfold CHold; (k_dflt (refine' Tell.useU (wordP _ _ _ _ _ ?q1 ?q2 ?q3 ?q4) ?B ?F ?N ?XB ?TB ?hk ?hd ?hu ?hp ?_ ?_); (case B => k_asm); (case F => k_asm); (case N => k_asm); (case XB => k_asm); (case TB => k_asm); (case hk => exact rfl); (case hd => first | exact roomD (by assumption) (by decide) | ((try dsimp only [ctx] at *); omega)); (case hu => first | exact roomC (by assumption) (by decide) | exact roomU (by assumption) (by decide) | ((try dsimp only [ctx] at *); omega)); (case hp => first | trivial | assumption); (case q1 => assumption); (case q2 => assumption); (case q3 => assumption); (case q4 => assumption); (try any_goals (exact fun _ _ _ _ _ z => z.elim)); k_whole; intro v9 h9 tk9 u9 F9 N9 r9; (try dsimp only at r9);  (try k_sweep); (try dsimp only))) | (k_dflt (refine' Tell.useE (isLetter _ _ _) ?B ?F ?N ?XB ?TB ?hk ?hd ?hu ?hp ?_); (case B => k_asm); (case F => k_asm); (case N => k_asm); (case XB => k_asm); (case TB => k_asm); (case hk => exact rfl); (case hd => first | exact roomD (by assumption) (by decide) | ((try dsimp only [ctx] at *); omega)); (case hu => first | exact roomC (by assumption) (by decide) | exact roomU (by assumption) (by decide) | ((try dsimp only [ctx] at *); omega)); (case hp => first | trivial | assumption);  k_whole; intro h9 tk9 F9 N9; (try k_sweep); (try dsimp only)) | (k_dflt (refine' Tell.useE (isFigure _ _ _) ?B ?F ?N ?XB ?TB ?hk ?hd ?hu ?hp ?_); (case B => k_asm); (case F => k_asm); (case N => k_asm); (case XB => k_asm); (case TB => k_asm); (case hk => exact rfl); (case hd => first | exact roomD (by assumption) (by decide) | ((try dsimp only [ctx] at *); omega)); (case hu => first | exact roomC (by assumption) (by decide) | exact roomU (by assumption) (by decide) | ((try dsimp only [ctx] at *); omega)); (case hp => first | trivial | assumption);  k_whole; intro h9 tk9 F9 N9; (try k_sweep); (try dsimp only)) | (unfold CHold; (k_dflt (refine' mkBE _ _ _ _ _ _ _ _ _ _ _ _ _ _ _ _ _ _ _ _ _ _ _ _ _ ?B ?F ?X ?N ?T ?hk ?hd ?hu ?_; (case B => k_asm); (case F => k_asm); (case X => k_asm); (case N => k_asm); (case T => k_asm); (case hk => exact rfl); (case hd => first | exact roomD (by assumption) (by decide) | ((try dsimp only [ctx] at *); omega)); (case hu => first | exact roomC (by assumption) (by decide) | exact roomU (by assumption) (by decide) | ((try dsimp only [ctx] at *); omega)); k_whole); intro x8 d8 t8 h8 k8 u8 v8 F8 N8 e8 n8; (try k_sweep); (try dsimp only)))); k_steps))
  · ((try dsimp only); (try (first | k_unfold | dsimp only [qk])); (try dsimp only); unfold LeaveP; dsimp only; refine ret _ _ _ (Fr.keep (by k_asm)) ?_; try dsimp only)
    rename (∃ k, _ ∧ numT _ = _) => e9
    obtain ⟨k, hz, hn⟩ := e9
    refine ⟨k, _, hz, hn, _, _, _, _, _, rfl, News.fresh (by k_asm) (.head _), News.get (by k_asm) (.head _), ?_, News.fresh (by k_asm) (.tail _ (.head _)), News.get (by k_asm) (.tail _ (.head _))⟩
    refine neN ?_
    omega
  · unfold RHold
    intro hh fl sm
    exact rai _ _ _ _ _ (by assumption) fl sm
theorem tok_dot (w : World) (row : Str) (tr : Tok) (a : Nat) (ta : Tok) (hr : row.length ≤ 1000) (hlow : Low row) (hc : row.cps.toList[a]? = some 46) (hf : isFig1 (Txt.slice row (some ((a : Int) + 1)) (some ((a : Int) + 2))) = true) : Tell w 60 149 [.str row tr, .int (a : Int) ta] (fun _ => True)
    (fun g h' v => ∃ k z, (z = (a : Int) + (k : Nat) ∨ (z = (a : Int) + (k : Nat) + 1 ∧ heads [33, 37] (row.cps.toList.drop (a + k)) = true)) ∧ numT (row.cps.toList.drop a) = .ok k ∧ TokRet g h' v z)
    (fun c v => c = "OV" ∧ ∃ n tk, v = .int ((a + n : Nat) : Int) tk ∧ numT (row.cps.toList.drop a) = .error n) := by
  unfold Tell
  intro mean mg mb dp un gd l base g gs dr tk os Q E B XB TB hd' hu hP ret rai
  revert XB; k_fill; intro XB
  have cLi := cLine_is
  have reci : recursionLimit = 1000 := rfl
  refine wpAny_call ?_
  k_dflt (refine' enterP (l0 := [("at", _), ("row", _)]) ?k1 ?k2 ?k3 ?k6 ?k7 ?k8 ?k9 ?kl ?kB ?_ ?c2 ?c3 ?c4 ?c5; (case k1 => exact B); (case k2 => exact XB); (case k3 => exact TB); (case k6 => k_is); (case k7 => k_is); (case k8 => exact roomZ hd'); (case k9 => exact BindsTo.of_eq rfl); (case kl => exact rfl); (case c5 => decide); (case kB => exact locs rfl); (case c2 => exact rfl); (case c3 => exact rfl); (case c4 => exact rfl); k_whole)
  intro L' h' tk0 F' N' X T
  dsimp only
  k_fold
  (k_with_none; (k_with "ne" => (first | exact ne_gt (by with_reducible assumption) | exact ne_lt (by with_reducible assumption) | with_reducible assumption | exact Ne.symm (by with_reducible assumption) | exact ne_gt (And.left (by with_reducible assumption)) | exact ne_gt (And.left (And.right (by with_reducible assumption))) | exact ne_gt (And.right (by with_reducible assumption)) | exact ne_gt (And.right (And.right (by with_reducible assumption))) | exact ne_lt (And.left (by with_reducible assumption)) | exact ne_lt (And.left (And.right (by with_reducible assumption))) | exact ne_lt (And.right (by with_reducible assumption)) | exact ne_lt (And.right (And.right (by with_reducible assumption))))); (k_with "subscriptTail Name Name str int" => (refine item_c (by assumption) (by assumption) ?_)); (k_with "ite" => (k_closed; first | refine ite_pos (by decide +kernel) ?_ | refine ite_neg (by decide +kernel) ?_)); (k_with "call ref" => refine hold34 ?_); (k_with "exec Raise some none" => refine Raise_be rfl ?_); (k_with "call ref" => refine hold67 ?_); (k_with "call ref" => refine hold60 ?_); (k_with "call ref" => refine hold142 ?_); (k_with "call ref" => refine hold100 ?_); k_steps; repeat' ((first | (k_dflt (refine' Tell.useP (numberP _ _ _ _ _ ?q1 ?q2) ?B ?F ?N ?XB ?TB ?hk ?hd ?hu ?hp ?_ ?_); (case B => k_asm); (case F => k_asm); (case N => k_asm); (case XB => k_asm); (case TB => k_asm); (case hk => exact rfl); (case hd => first | exact roomD (by assumption) (by decide) | ((try dsimp only [ctx] at *); omega)); (case hu => first | exact roomC (by assumption) (by decide) | exact roomU (by assumption) (by decide) | ((try dsimp only [ctx] at *); omega)); (case hp => first | trivial | assumption); (case q1 => assumption); (case q2 => assumption); (rotate_left 1; intro e7 h7 k7 c7 v7 x7 fl7 sm7; (try k_unfold); (try dsimp only); refine leave_fly (by k_asm) (by k_asm) fl7 sm7 ?_; refine holdR ?_; rotate_right 1); k_whole; intro h9 tk9 z9 t9 a9 x9 e9 F9 N9 q9; (try dsimp only [AllNe] at q9); (try k_sweep); (try dsimp only)) | (unfold CHold; (k_dflt (refine' Tell.useU (wordP _ _ _ _ _ ?q1 ?q2 ?q3 ?q4) ?B ?F ?N ?XB ?TB ?hk ?hd ?hu ?hp ?_ ?_); (case B => k_asm); (case F => k_asm); (case N => k_asm); (case XB => k_asm); (case TB => k_asm); (case hk => exact rfl); (case hd => first | exact roomD (by assumption) (by decide) | ((try dsimp only [ctx] at *); omega)); (case hu => first | exact roomC (by assumption) (by decide) | exact roomU (by assumption) (by decide) | ((try dsimp only [ctx] at *); omega)); (case hp => first | trivial | assumption); (case q1 => assumption); (case q2 => assumption); (case q3 => assumption); (case q4 => assumption); (try any_goals (exact fun _ _ _ _ _ z => z.elim)); k_whole; intro v9 h9 tk9 u9 F9 N9 r9; (try dsimp only at r9);  (try k_sweep); (try dsimp only))) | (k_dflt (refine' Tell.useE (isLetter _ _ _) ?B ?F ?N ?XB ?TB ?hk ?hd ?hu ?hp ?_); (case B => k_asm); (case F => k_asm); (case N => k_asm); (case XB => k_asm); (case TB => k_asm); (case hk => exact rfl); (case hd => first | exact roomD (by assumption) (by decide) | ((try dsimp only [ctx] at *); omega)); (case hu => first | exact roomC (by assumption) (by decide) | exact roomU (by assumption) (by decide) | ((try dsimp only [ctx] at *); omega)); (case hp => first | trivial | assumption);  k_whole; intro h9 tk9 F9 N9; (try k_sweep); (try dsimp only)) | (k_dflt (refine' Tell.useE (isFigure _ _ _) ?B ?F ?N ?XB ?TB ?hk ?hd ?hu ?hp ?_); (case B => k_asm); (case F => k_asm); (case N => k_asm); (case XB => k_asm); (case TB => k_asm); (case hk => exact rfl); (case hd => first | exact roomD (by assumption) (by decide) | ((try dsimp only [ctx] at *); omega)); (case hu => first | exact roomC (by assumption) (by decide) | exact roomU (by assumption) (by decide) | ((try dsimp only [ctx] at *); omega)); (case hp => first | trivial | assumption);  k_whole; intro h9 tk9 F9 N9; (try k_sweep); (try dsimp only)) | (unfold CHold; (k_dflt (refine' mkBE _ _ _ _ _ _ _ _ _ _ _ _ _ _ _ _ _ _ _ _ _ _ _ _ _ ?B ?F ?X ?N ?T ?hk ?hd ?hu ?_; (case B => k_asm); (case F => k_asm); (case X => k_asm); (case N => k_asm); (case T => k_asm); (case hk => exact rfl); (case hd => first | exact roomD (by assumption) (by decide) | ((try dsimp only [ctx] at *); omega)); (case hu => first | exact roomC (by assumption) (by decide) | exact roomU (by assumption) (by decide) | ((try dsimp only [ctx] at *); omega)); k_whole); intro x8 d8 t8 h8 k8 u8 v8 F8 N8 e8 n8; (try k_sweep); (try dsimp only)))); k_steps))
  all_goals (try (have hno : isFig1 (Txt.slice row (some ((a : Int) + 1)) (some ((a : Int) + 2))) = false := by assumption
                  rw [hf] at hno; cases hno))
  · ((try dsimp only); (try (first | k_unfold | dsimp only [qk])); (try dsimp only); unfold LeaveP; dsimp only; refine ret _ _ _ (Fr.keep (by k_asm)) ?_; try dsimp only)
    rename (∃ k, _ ∧ numT _ = _) => e9
    obtain ⟨k, hz, hn⟩ := e9
    refine ⟨k, _, hz, hn, _, _, _, _, _, rfl, News.fresh (by k_asm) (.head _), News.get (by k_asm) (.head _), ?_, News.fresh (by k_asm) (.tail _ (.head _)), News.get (by k_asm) (.tail _ (.head _))⟩
    refine neN ?_
    omega
  · unfold RHold
    intro hh fl sm
    exact rai _ _ _ _ _ (by assumption) fl sm

theorem tok_quote (w : World) (row : Str) (tr : Tok) (a : Nat) (ta : Tok) (hr : row.length ≤ 1000) (hc : row.cps.toList[a]? = some 34) (k : Nat) (h1 : row.cps.toList[a + 1 + k]? = some 34) (h2 : ∀ j, a + 1 ≤ j → j < a + 1 + k → row.cps.toList[j]? ≠ some 34) : Tell w 60 149 [.str row tr, .int (a : Int) ta] (fun _ => True)
    (fun g h' v => TokRet g h' v ((a : Int) + k + 2 : Int)) (fun _ _ => False) := by
  unfold Tell
  intro mean mg mb dp un gd l base g gs dr tk os Q E B XB TB hd' hu hP ret rai
  revert XB; k_fill; intro XB
  have cLi := cLine_is
  have reci : recursionLimit = 1000 := rfl
  refine wpAny_call ?_
  k_dflt (refine' enterP (l0 := [("at", _), ("row", _)]) ?k1 ?k2 ?k3 ?k6 ?k7 ?k8 ?k9 ?kl ?kB ?_ ?c2 ?c3 ?c4 ?c5; (case k1 => exact B); (case k2 => exact XB); (case k3 => exact TB); (case k6 => k_is); (case k7 => k_is); (case k8 => exact roomZ hd'); (case k9 => exact BindsTo.of_eq rfl); (case kl => exact rfl); (case c5 => decide); (case kB => exact locs rfl); (case c2 => exact rfl); (case c3 => exact rfl); (case c4 => exact rfl); k_whole)
  intro L' h' tk0 F' N' X T
  dsimp only
  k_fold
  (k_with_none; (k_with "ne" => (first | exact ne_gt (by with_reducible assumption) | exact ne_lt (by with_reducible assumption) | with_reducible assumption | exact Ne.symm (by with_reducible assumption) | exact ne_gt (And.left (by with_reducible assumption)) | exact ne_gt (And.left (And.right (by with_reducible assumption))) | exact ne_gt (And.right (by with_reducible assumption)) | exact ne_gt (And.right (And.right (by with_reducible assumption))) | exact ne_lt (And.left (by with_reducible assumption)) | exact ne_lt (And.left (And.right (by with_reducible assumption))) | exact ne_lt (And.right (by with_reducible assumption)) | exact ne_lt (And.right (And.right (by with_reducible assumption))))); (k_with "subscriptTail Name Name str int" => (refine item_c (by assumption) (by assumption) ?_)); (k_with "ite" => (k_closed; first | refine ite_pos (by decide +kernel) ?_ | refine ite_neg (by decide +kernel) ?_)); (k_with "call ref" => refine hold34 ?_); (k_with "exec Raise some none" => refine Raise_be rfl ?_); (k_with "call ref" => refine hold67 ?_); (k_with "call ref" => refine hold60 ?_); (k_with "call ref" => refine hold142 ?_); (k_with "call ref" => refine hold100 ?_); (k_with "call ref" => refine hold114 ?_); k_steps; repeat' ((first | (k_dflt (refine' Tell.useP0 (textP _ _ _ _ _ ?q1 _ ?q2 ?q3) ?B ?F ?N ?XB ?TB ?hk ?hd ?hu ?hp ?_); (case B => k_asm); (case F => k_asm); (case N => k_asm); (case XB => k_asm); (case TB => k_asm); (case hk => exact rfl); (case hd => first | exact roomD (by assumption) (by decide) | ((try dsimp only [ctx] at *); omega)); (case hu => first | exact roomC (by assumption) (by decide) | exact roomU (by assumption) (by decide) | ((try dsimp only [ctx] at *); omega)); (case hp => first | trivial | assumption); (case q1 => assumption); (case q2 => assumption); (case q3 => assumption); k_whole; intro h9 tk9 z9 t9 a9 x9 e9 F9 N9 q9; (try dsimp only [AllNe] at q9); (try k_sweep); (try dsimp only)) | (k_dflt (refine' Tell.useP (numberP _ _ _ _ _ ?q1 ?q2) ?B ?F ?N ?XB ?TB ?hk ?hd ?hu ?hp ?_ ?_); (case B => k_asm); (case F => k_asm); (case N => k_asm); (case XB => k_asm); (case TB => k_asm); (case hk => exact rfl); (case hd => first | exact roomD (by assumption) (by decide) | ((try dsimp only [ctx] at *); omega)); (case hu => first | exact roomC (by assumption) (by decide) | exact roomU (by assumption) (by decide) | ((try dsimp only [ctx] at *); omega)); (case hp => first | trivial | assumption); (case q1 => assumption); (case q2 => assumption); (rotate_left 1; intro e7 h7 k7 c7 v7 x7 fl7 sm7; (try k_unfold); (try dsimp only); refine leave_fly (by k_asm) (by k_asm) fl7 sm7 ?_; refine holdR ?_; rotate_right 1); k_whole; intro h9 tk9 z9 t9 a9 x9 e9 F9 N9 q9; (try dsimp only [AllNe] at q9); (try k_sweep); (try dsimp only)) | (unfold CHold; (k_dflt (refine' Tell.useU (wordP _ _ _ _ _ ?q1 ?q2 ?q3 ?q4) ?B ?F ?N ?XB ?TB ?hk ?hd ?hu ?hp ?_ ?_); (case B => k_asm); (case F => k_asm); (case N => k_asm); (case XB => k_asm); (case TB => k_asm); (case hk => exact rfl); (case hd => first | exact roomD (by assumption) (by decide) | ((try dsimp only [ctx] at *); omega)); (case hu => first | exact roomC (by assumption) (by decide) | exact roomU (by assumption) (by decide) | ((try dsimp only [ctx] at *); omega)); (case hp => first | trivial | assumption); (case q1 => assumption); (case q2 => assumption); (case q3 => assumption); (case q4 => assumption); (try any_goals (exact fun _ _ _ _ _ z => z.elim)); k_whole; intro v9 h9 tk9 u9 F9 N9 r9; (try dsimp only at r9);  (try k_sweep); (try dsimp only))) | (k_dflt (refine' Tell.useE (isLetter _ _ _) ?B ?F ?N ?XB ?TB ?hk ?hd ?hu ?hp ?_); (case B => k_asm); (case F => k_asm); (case N => k_asm); (case XB => k_asm); (case TB => k_asm); (case hk => exact rfl); (case hd => first | exact roomD (by assumption) (by decide) | ((try dsimp only [ctx] at *); omega)); (case hu => first | exact roomC (by assumption) (by decide) | exact roomU (by assumption) (by decide) | ((try dsimp only [ctx] at *); omega)); (case hp => first | trivial | assumption);  k_whole; intro h9 tk9 F9 N9; (try k_sweep); (try dsimp only)) | (k_dflt (refine' Tell.useE (isFigure _ _ _) ?B ?F ?N ?XB ?TB ?hk ?hd ?hu ?hp ?_); (case B => k_asm); (case F => k_asm); (case N => k_asm); (case XB => k_asm); (case TB => k_asm); (case hk => exact rfl); (case hd => first | exact roomD (by assumption) (by decide) | ((try dsimp only [ctx] at *); omega)); (case hu => first | exact roomC (by assumption) (by decide) | exact roomU (by assumption) (by decide) | ((try dsimp only [ctx] at *); omega)); (case hp => first | trivial | assumption);  k_whole; intro h9 tk9 F9 N9; (try k_sweep); (try dsimp only)) | (unfold CHold; (k_dflt (refine' mkBE _ _ _ _ _ _ _ _ _ _ _ _ _ _ _ _ _ _ _ _ _ _ _ _ _ ?B ?F ?X ?N ?T ?hk ?hd ?hu ?_; (case B => k_asm); (case F => k_asm); (case X => k_asm); (case N => k_asm); (case T => k_asm); (case hk => exact rfl); (case hd => first | exact roomD (by assumption) (by decide) | ((try dsimp only [ctx] at *); omega)); (case hu => first | exact roomC (by assumption) (by decide) | exact roomU (by assumption) (by decide) | ((try dsimp only [ctx] at *); omega)); k_whole); intro x8 d8 t8 h8 k8 u8 v8 F8 N8 e8 n8; (try k_sweep); (try dsimp only)))); k_steps))
  ((try dsimp only); (try (first | k_unfold | dsimp only [qk])); (try dsimp only); unfold LeaveP; dsimp only; refine ret _ _ _ (Fr.keep (by k_asm)) ?_; try dsimp only)
  rename (_ = _ + (2 : Int)) => e9
  rw [← e9]
  refine ⟨_, _, _, _, _, rfl, News.fresh (by k_asm) (.head _), News.get (by k_asm) (.head _), ?_, News.fresh (by k_asm) (.tail _ (.head _)), News.get (by k_asm) (.tail _ (.head _))⟩
  refine neN ?_
  omega

theorem tok_order (w : World) (row : Str) (tr : Tok) (a : Nat) (ta : Tok) (hr : row.length ≤ 1000) (hc : row.cps.toList[a]? = some 60) (h2 : row.cps.toList[a + 1]? = some 61) : Tell w 60 149 [.str row tr, .int (a : Int) ta] (fun _ => True)
    (fun g h' v => TokRet g h' v ((a : Int) + 2 : Int)) (fun _ _ => False) := by
  unfold Tell
  intro mean mg mb dp un gd l base g gs dr tk os Q E B XB TB hd' hu hP ret rai
  revert XB; k_fill; intro XB
  have cLi := cLine_is
  have reci : recursionLimit = 1000 := rfl
  refine wpAny_call ?_
  k_dflt (refine' enterP (l0 := [("at", _), ("row", _)]) ?k1 ?k2 ?k3 ?k6 ?k7 ?k8 ?k9 ?kl ?kB ?_ ?c2 ?c3 ?c4 ?c5; (case k1 => exact B); (case k2 => exact XB); (case k3 => exact TB); (case k6 => k_is); (case k7 => k_is); (case k8 => exact roomZ hd'); (case k9 => exact BindsTo.of_eq rfl); (case kl => exact rfl); (case c5 => decide); (case kB => exact locs rfl); (case c2 => exact rfl); (case c3 => exact rfl); (case c4 => exact rfl); k_whole)
  intro L' h' tk0 F' N' X T
  dsimp only
  k_fold
  (k_with_none; (k_with "ne" => (first | exact ne_gt (by with_reducible assumption) | exact ne_lt (by with_reducible assumption) | with_reducible assumption | exact Ne.symm (by with_reducible assumption) | exact ne_gt (And.left (by with_reducible assumption)) | exact ne_gt (And.left (And.right (by with_reducible assumption))) | exact ne_gt (And.right (by with_reducible assumption)) | exact ne_gt (And.right (And.right (by with_reducible assumption))) | exact ne_lt (And.left (by with_reducible assumption)) | exact ne_lt (And.left (And.right (by with_reducible assumption))) | exact ne_lt (And.right (by with_reducible assumption)) | exact ne_lt (And.right (And.right (by with_reducible assumption))))); (k_with "subscriptTail Name Name str int" => (refine item_c (by assumption) (by assumption) ?_)); (k_with "ite" => (k_closed; first | refine ite_pos (by decide +kernel) ?_ | refine ite_neg (by decide +kernel) ?_)); (k_with "call ref" => refine hold34 ?_); (k_with "exec Raise some none" => refine Raise_be rfl ?_); (k_with "call ref" => refine hold67 ?_); (k_with "call ref" => refine hold60 ?_); (k_with "call ref" => refine hold142 ?_); (k_with "call ref" => refine hold100 ?_); (k_with "call ref" => refine hold114 ?_); (k_with "call ref" => refine hold121 ?_); k_steps; repeat' ((first | (k_dflt (refine' Tell.useP0 (orderP _ _ _ _ _ ?q1 ?q2 ?q3) ?B ?F ?N ?XB ?TB ?hk ?hd ?hu ?hp ?_); (case B => k_asm); (case F => k_asm); (case N => k_asm); (case XB => k_asm); (case TB => k_asm); (case hk => exact rfl); (case hd => first | exact roomD (by assumption) (by decide) | ((try dsimp only [ctx] at *); omega)); (case hu => first | exact roomC (by assumption) (by decide) | exact roomU (by assumption) (by decide) | ((try dsimp only [ctx] at *); omega)); (case hp => first | trivial | assumption); (case q1 => assumption); (case q2 => assumption); (case q3 => assumption); k_whole; intro h9 tk9 z9 t9 a9 x9 e9 F9 N9 q9; (try dsimp only [AllNe] at q9); (try k_sweep); (try dsimp only)) | (k_dflt (refine' Tell.useP0 (textP _ _ _ _ _ ?q1 _ ?q2 ?q3) ?B ?F ?N ?XB ?TB ?hk ?hd ?hu ?hp ?_); (case B => k_asm); (case F => k_asm); (case N => k_asm); (case XB => k_asm); (case TB => k_asm); (case hk => exact rfl); (case hd => first | exact roomD (by assumption) (by decide) | ((try dsimp only [ctx] at *); omega)); (case hu => first | exact roomC (by assumption) (by decide) | exact roomU (by assumption) (by decide) | ((try dsimp only [ctx] at *); omega)); (case hp => first | trivial | assumption); (case q1 => assumption); (case q2 => assumption); (case q3 => assumption); k_whole; intro h9 tk9 z9 t9 a9 x9 e9 F9 N9 q9; (try dsimp only [AllNe] at q9); (try k_sweep); (try dsimp only)) | (k_dflt (refine' Tell.useP (numberP _ _ _ _ _ ?q1 ?q2) ?B ?F ?N ?XB ?TB ?hk ?hd ?hu ?hp ?_ ?_); (case B => k_asm); (case F => k_asm); (case N => k_asm); (case XB => k_asm); (case TB => k_asm); (case hk => exact rfl); (case hd => first | exact roomD (by assumption) (by decide) | ((try dsimp only [ctx] at *); omega)); (case hu => first | exact roomC (by assumption) (by decide) | exact roomU (by assumption) (by decide) | ((try dsimp only [ctx] at *); omega)); (case hp => first | trivial | assumption); (case q1 => assumption); (case q2 => assumption); (rotate_left 1; intro e7 h7 k7 c7 v7 x7 fl7 sm7; (try k_unfold); (try dsimp only); refine leave_fly (by k_asm) (by k_asm) fl7 sm7 ?_; refine holdR ?_; rotate_right 1); k_whole; intro h9 tk9 z9 t9 a9 x9 e9 F9 N9 q9; (try dsimp only [AllNe] at q9); (try k_sweep); (try dsimp only)) | (unfold CHold; (k_dflt (refine' Tell.useU (wordP _ _ _ _ _ ?q1 ?q2 ?q3 ?q4) ?B ?F ?N ?XB ?TB ?hk ?hd ?hu ?hp ?_ ?_); (case B => k_asm); (case F => k_asm); (case N => k_asm); (case XB => k_asm); (case TB => k_asm); (case hk => exact rfl); (case hd => first | exact roomD (by assumption) (by decide) | ((try dsimp only [ctx] at *); omega)); (case hu => first | exact roomC (by assumption) (by decide) | exact roomU (by assumption) (by decide) | ((try dsimp only [ctx] at *); omega)); (case hp => first | trivial | assumption); (case q1 => assumption); (case q2 => assumption); (case q3 => assumption); (case q4 => assumption); (try any_goals (exact fun _ _ _ _ _ z => z.elim)); k_whole; intro v9 h9 tk9 u9 F9 N9 r9; (try dsimp only at r9);  (try k_sweep); (try dsimp only))) | (k_dflt (refine' Tell.useE (isLetter _ _ _) ?B ?F ?N ?XB ?TB ?hk ?hd ?hu ?hp ?_); (case B => k_asm); (case F => k_asm); (case N => k_asm); (case XB => k_asm); (case TB => k_asm); (case hk => exact rfl); (case hd => first | exact roomD (by assumption) (by decide) | ((try dsimp only [ctx] at *); omega)); (case hu => first | exact roomC (by assumption) (by decide) | exact roomU (by assumption) (by decide) | ((try dsimp only [ctx] at *); omega)); (case hp => first | trivial | assumption);  k_whole; intro h9 tk9 F9 N9; (try k_sweep); (try dsimp only)) | (k_dflt (refine' Tell.useE (isFigure _ _ _) ?B ?F ?N ?XB ?TB ?hk ?hd ?hu ?hp ?_); (case B => k_asm); (case F => k_asm); (case N => k_asm); (case XB => k_asm); (case TB => k_asm); (case hk => exact rfl); (case hd => first | exact roomD (by assumption) (by decide) | ((try dsimp only [ctx] at *); omega)); (case hu => first | exact roomC (by assumption) (by decide) | exact roomU (by assumption) (by decide) | ((try dsimp only [ctx] at *); omega)); (case hp => first | trivial | assumption);  k_whole; intro h9 tk9 F9 N9; (try k_sweep); (try dsimp only)) | (unfold CHold; (k_dflt (refine' mkBE _ _ _ _ _ _ _ _ _ _ _ _ _ _ _ _ _ _ _ _ _ _ _ _ _ ?B ?F ?X ?N ?T ?hk ?hd ?hu ?_; (case B => k_asm); (case F => k_asm); (case X => k_asm); (case N => k_asm); (case T => k_asm); (case hk => exact rfl); (case hd => first | exact roomD (by assumption) (by decide) | ((try dsimp only [ctx] at *); omega)); (case hu => first | exact roomC (by assumption) (by decide) | exact roomU (by assumption) (by decide) | ((try dsimp only [ctx] at *); omega)); k_whole); intro x8 d8 t8 h8 k8 u8 v8 F8 N8 e8 n8; (try k_sweep); (try dsimp only)))); k_steps))
  ((try dsimp only); (try (first | k_unfold | dsimp only [qk])); (try dsimp only); unfold LeaveP; dsimp only; refine ret _ _ _ (Fr.keep (by k_asm)) ?_; try dsimp only)
  rename (_ = _ + (2 : Int)) => e9
  rw [← e9]
  refine ⟨_, _, _, _, _, rfl, News.fresh (by k_asm) (.head _), News.get (by k_asm) (.head _), ?_, News.fresh (by k_asm) (.tail _ (.head _)), News.get (by k_asm) (.tail _ (.head _))⟩
  refine neN ?_
  omega
end Mine
/-! T11 -/
namespace Mine
theorem start_T11 : True := by
  w_top off
  trivial
def TokOk (w : World) (row : Str) (a n : Nat) : Prop := ∀ tr ta, Tell w 60 149 [.str row tr, .int (a : Int) ta] (fun _ => True) (fun g h' v => TokRet g h' v ((a + n : Nat) : Int)) (fun _ _ => False)
def TokNo (w : World) (row : Str) (a : Nat) (c : Str) (o : Nat) : Prop := ∀ tr ta, Tell w 60 149 [.str row tr, .int (a : Int) ta] (fun _ => True) (fun _ _ _ => False) (fun c' v => c' = c ∧ ∃ tk, v = .int ((a + o : Nat) : Int) tk)
theorem drop_get {l t : List Nat} {a : Nat} (h : l.drop a = t) (k : Nat) : l[a + k]? = t[k]? := by rw [← h, List.getElem?_drop]
theorem drop_get0 {l t : List Nat} {a : Nat} (h : l.drop a = t) : l[a]? = t[0]? := drop_get h 0
theorem drop_more {l t : List Nat} {a : Nat} (h : l.drop a = t) (k : Nat) : l.drop (a + k) = t.drop k := by rw [← h, List.drop_drop]
theorem nameE_of {l t : List Nat} {a : Nat} (h : l.drop a = t) : nameE l a = a + (let n := runL isName t; if heads [37, 36, 33] (t.drop n) = true then n + 1 else n) := by
  unfold nameE runE
  rw [h]
  simp only [drop_more h]
  split <;> omega
theorem word_slice {row : Str} {t : List Nat} {a n : Nat} (h : row.cps.toList.drop a = t) : Txt.slice row (some (a : Int)) (some ((a + n : Nat) : Int)) = ⟨(t.take n).toArray⟩ := by
  rw [slice_nat _ _ _ (by omega), h, Nat.add_sub_cancel_left]
theorem str_ne {x y : List Nat} (h : x ≠ y) : (⟨x.toArray⟩ : Str) ≠ ⟨y.toArray⟩ := by
  intro q; injection q with q; injection q with q; exact h q
theorem o_REM : Str.ofString "REM" = ⟨[82, 69, 77].toArray⟩ := by decide +kernel
theorem o_DATA : Str.ofString "DATA" = ⟨[68, 65, 84, 65].toArray⟩ := by decide +kernel
theorem word_ok {w : World} {row : Str} {a n : Nat} {t : List Nat} (h : row.cps.toList.drop a = t)
    (hn : (let n := runL isName t; if heads [37, 36, 33] (t.drop n) = true then n + 1 else n) = n) (h1 : t.take n ≠ [82, 69, 77]) (h2 : t.take n ≠ [68, 65, 84, 65])
    (H : ∀ tr ta, Txt.slice row (some (a : Int)) (some ((nameE row.cps.toList a : Nat) : Int)) ≠ "REM" → Txt.slice row (some (a : Int)) (some ((nameE row.cps.toList a : Nat) : Int)) ≠ "DATA" →
      Tell w 60 149 [.str row tr, .int (a : Int) ta] (fun _ => True) (fun g h' v => TokRet g h' v (nameE row.cps.toList a : Nat)) (fun _ _ => False)) : TokOk w row a n := by
  have e : nameE row.cps.toList a = a + n := by rw [nameE_of h, hn]
  intro tr ta
  have := H tr ta (by rw [e, word_slice h, o_REM]; exact str_ne h1) (by rw [e, word_slice h, o_DATA]; exact str_ne h2)
  rw [e] at this
  exact this
theorem num_ok {w : World} {row : Str} {a n : Nat} {t : List Nat} (h : row.cps.toList.drop a = t) (hn : numT t = .ok n) (hs : heads [33, 37] (t.drop n) = false)
    (H : ∀ tr ta, Tell w 60 149 [.str row tr, .int (a : Int) ta] (fun _ => True)
      (fun g h' v => ∃ k z, (z = (a : Int) + (k : Nat) ∨ (z = (a : Int) + (k : Nat) + 1 ∧ heads [33, 37] (row.cps.toList.drop (a + k)) = true)) ∧ numT (row.cps.toList.drop a) = .ok k ∧ TokRet g h' v z)
      (fun c v => c = "OV" ∧ ∃ n tk, v = .int ((a + n : Nat) : Int) tk ∧ numT (row.cps.toList.drop a) = .error n)) : TokOk w row a n := fun tr ta => by
  refine (H tr ta).mono (fun g h' v q => ?_) (fun c v q => ?_)
  · obtain ⟨k, z, hz, hk, R⟩ := q
    rw [h, hn] at hk
    cases hk
    rcases hz with hz | ⟨_, hz⟩
    · rw [hz] at R; exact R
    · rw [drop_more h, hs] at hz; cases hz
  · obtain ⟨_, n', tk, _, hk⟩ := q
    rw [h, hn] at hk; cases hk
theorem num_no {w : World} {row : Str} {a o : Nat} {t : List Nat} (h : row.cps.toList.drop a = t) (hn : numT t = .error o)
    (H : ∀ tr ta, Tell w 60 149 [.str row tr, .int (a : Int) ta] (fun _ => True)
      (fun g h' v => ∃ k z, (z = (a : Int) + (k : Nat) ∨ (z = (a : Int) + (k : Nat) + 1 ∧ heads [33, 37] (row.cps.toList.drop (a + k)) = true)) ∧ numT (row.cps.toList.drop a) = .ok k ∧ TokRet g h' v z)
      (fun c v => c = "OV" ∧ ∃ n tk, v = .int ((a + n : Nat) : Int) tk ∧ numT (row.cps.toList.drop a) = .error n)) : TokNo w row a "OV" o := fun tr ta => by
  refine (H tr ta).mono (fun g h' v q => ?_) (fun c v q => ?_)
  · obtain ⟨k, z, hz, hk, R⟩ := q
    rw [h, hn] at hk; cases hk
  · obtain ⟨hc, n', tk, hv, hk⟩ := q
    rw [h, hn] at hk; cases hk
    exact ⟨hc, tk, hv⟩
theorem fig_next {row : Str} {a : Nat} {t : List Nat} (h : row.cps.toList.drop a = t) : isFig1 (Txt.slice row (some ((a : Int) + 1)) (some ((a : Int) + 2))) = isFig1 (one (t.drop 1)) := by
  rw [slice2, drop_more h]
/-- the right pieces, and a letter -/
def pieces : List (List Nat) := [[80, 82, 73, 78, 84], [65, 36], [49, 50], [34, 123, 39, 34], [60, 61], [40], [58], [88, 49, 37], [46, 53], [65]]
theorem piece_ok {w : World} {row : Str} {a : Nat} {p r : List Nat} (hr : row.length ≤ 1000) (hlow : Low row) (hp : p ∈ pieces) (h : row.cps.toList.drop a = p ++ 32 :: r) : TokOk w row a p.length := by
  have g0 := drop_get0 h
  have g1 := drop_get h 1
  have g2 := drop_get h 2
  have g3 := drop_get h 3
  simp only [pieces, List.mem_cons, List.not_mem_nil, or_false] at hp
  rcases hp with rfl | rfl | rfl | rfl | rfl | rfl | rfl | rfl | rfl | rfl
  · exact word_ok h rfl (by simp) (by simp) fun tr ta => tok_P w row tr a ta hr hlow g0
  · exact word_ok h rfl (by simp) (by simp) fun tr ta => tok_A w row tr a ta hr hlow g0
  · exact num_ok h rfl rfl fun tr ta => tok_one w row tr a ta hr hlow g0
  · intro tr ta
    have := tok_quote w row tr a ta hr g0 2 g3 (fun j h1 h2 => by
      rcases (show j = a + 1 ∨ j = a + 2 by omega) with rfl | rfl
      · rw [g1]; simp
      · rw [g2]; simp)
    exact this
  · exact fun tr ta => tok_order w row tr a ta hr g0 g1
  · exact fun tr ta => tok_lpar w row tr a ta hr g0
  · exact fun tr ta => tok_colon w row tr a ta hr g0
  · exact word_ok h rfl (by simp) (by simp) fun tr ta => tok_X w row tr a ta hr hlow g0
  · exact num_ok h rfl rfl fun tr ta => tok_dot w row tr a ta hr hlow g0 (by rw [fig_next h]; show isFig1 ⟨#[53]⟩ = true; decide)
  · exact word_ok h rfl (by simp) (by simp) fun tr ta => tok_A w row tr a ta hr hlow g0
/-- the bad ends, as signs -/
def figs (n : Nat) : List Nat := ((List.range 45).map fun i => 49 + i % 9).take n
def bads : List (List Nat × Option (Str × Nat)) :=
  [([], none), ([123, 32, 49], some ("SN", 0)), ([126], some ("SN", 0)), (figs 40, none), (figs 41, some ("OV", 0)), ([49, 46] ++ figs 38, none), ([49, 46] ++ figs 39, some ("OV", 0)), ([50, 69, 43, 49, 50, 51], none),
    ([50, 69, 43, 49, 50, 51, 52], some ("OV", 1)), ([50, 46, 53, 69, 49, 48, 48, 48], some ("OV", 3)), ([46, 32], some ("SN", 0)), ([37], some ("SN", 0)), ([123], some ("SN", 0))]
def EndSays (w : World) (row : Str) (bad : List Nat) (fin : Option (Str × Nat)) (a : Nat) : Prop := match fin with
  | none => bad = [] ∨ TokOk w row a bad.length
  | some (c, o) => bad ≠ [] ∧ TokNo w row a c o
theorem bad_says {w : World} {row : Str} {a : Nat} {b : List Nat × Option (Str × Nat)} (hr : row.length ≤ 1000) (hlow : Low row) (hb : b ∈ bads) (h : row.cps.toList.drop a = b.1) : EndSays w row b.1 b.2 a := by
  have g0 := drop_get0 h
  simp only [bads, List.mem_cons, List.not_mem_nil, or_false] at hb
  rcases hb with rfl | rfl | rfl | rfl | rfl | rfl | rfl | rfl | rfl | rfl | rfl | rfl | rfl
  · exact .inl rfl
  · exact ⟨by decide, fun tr ta => tok_brace w row tr a ta hr g0⟩
  · exact ⟨by decide, fun tr ta => tok_tilde w row tr a ta hr g0⟩
  · exact .inr (num_ok h (by kernel_rfl) (by kernel_rfl) fun tr ta => tok_one w row tr a ta hr hlow g0)
  · exact ⟨by decide, num_no h (by kernel_rfl) fun tr ta => tok_one w row tr a ta hr hlow g0⟩
  · exact .inr (num_ok h (by kernel_rfl) (by kernel_rfl) fun tr ta => tok_one w row tr a ta hr hlow g0)
  · exact ⟨by decide, num_no h (by kernel_rfl) fun tr ta => tok_one w row tr a ta hr hlow g0⟩
  · exact .inr (num_ok h (by kernel_rfl) (by kernel_rfl) fun tr ta => tok_two w row tr a ta hr hlow g0)
  · exact ⟨by decide, num_no h (by kernel_rfl) fun tr ta => tok_two w row tr a ta hr hlow g0⟩
  · exact ⟨by decide, num_no h (by kernel_rfl) fun tr ta => tok_two w row tr a ta hr hlow g0⟩
  · exact ⟨by decide, fun tr ta => tok_dotbad w row tr a ta hr hlow g0 (by rw [fig_next h]; decide)⟩
  · exact ⟨by decide, fun tr ta => tok_cent w row tr a ta hr g0⟩
  · exact ⟨by decide, fun tr ta => tok_brace w row tr a ta hr g0⟩
end Mine
/-! T12 -/
namespace Mine
theorem start_T12 : True := by
  w_top off
  trivial
/-- right pieces with blanks between, then the end -/
inductive Tail (bad : List Nat) : List Nat → Prop
  | bad : Tail bad bad
  | piece {p r : List Nat} (k : Nat) : p ∈ pieces → Tail bad r → Tail bad (p ++ 32 :: (List.replicate k 32 ++ r))
def Good (bad : List Nat) (fin : Option (Str × Nat)) (t : List Nat) : Prop := Tail bad t ∨ (t = [] ∧ fin = none)
theorem runL_blanks (k : Nat) (r : List Nat) (h : runL isBlk r = 0) : runL isBlk (List.replicate k 32 ++ r) = k := by
  induction k with
  | zero => simpa using h
  | succ k ih =>
    rw [List.replicate_succ, List.cons_append]
    unfold runL at ih ⊢
    rw [List.takeWhile_cons, show isBlk 32 = true from rfl]
    simp [ih]
theorem Tail.head {bad t : List Nat} (hb : runL isBlk bad = 0) (h : Tail bad t) : runL isBlk t = 0 := by
  cases h with
  | bad => exact hb
  | piece k hp _ =>
    simp only [pieces, List.mem_cons, List.not_mem_nil, or_false] at hp
    rcases hp with rfl | rfl | rfl | rfl | rfl | rfl | rfl | rfl | rfl | rfl <;> rfl
theorem turn_says {w : World} {row : Str} {bad : List Nat} {fin : Option (Str × Nat)} {a : Nat} (hr : row.length ≤ 1000) (hlow : Low row) (hb : ∀ a, row.cps.toList.drop a = bad → EndSays w row bad fin a) (hb0 : runL isBlk bad = 0)
    (ht : Good bad fin (row.cps.toList.drop a)) (hlt : a < row.length) (tr ta : Tok) :
    Tell w 60 149 [.str row tr, .int (a : Int) ta] (fun _ => True)
      (fun g h' v => ∃ z, (∃ n, z = ((a + n : Nat) : Int) ∧ 0 < n ∧ Good bad fin (row.cps.toList.drop (runE isBlk row.cps.toList (a + n)))) ∧ TokRet g h' v z)
      (fun c v => ∃ o tk, fin = some (c, o) ∧ v = .int ((row.length - bad.length + o : Nat) : Int) tk) := by
  have hne : row.cps.toList.drop a ≠ [] := by
    intro q
    have := congrArg List.length q
    rw [List.length_drop, row_len] at this
    simp at this; omega
  have ht' : Tail bad (row.cps.toList.drop a) := ht.elim id fun q => absurd q.1 hne
  generalize e : row.cps.toList.drop a = t at ht'
  cases ht' with
  | bad =>
    have hs := hb a e
    have hlen : row.length - bad.length = a := by
      have := congrArg List.length e
      rw [List.length_drop, row_len] at this
      omega
    cases fin with
    | none =>
      rcases hs with rfl | hs
      · exact absurd e hne
      · refine (hs tr ta).mono (fun g h v R => ⟨_, ⟨bad.length, rfl, ?_, .inr ⟨?_, rfl⟩⟩, R⟩) (fun c v q => q.elim)
        · rcases Nat.eq_zero_or_pos bad.length with q | q
          · rw [List.length_eq_zero_iff] at q; subst q; exact absurd e hne
          · exact q
        · have hout : row.cps.toList.length ≤ a + bad.length := by rw [row_len]; omega
          rw [runE_out hout]
          exact List.drop_eq_nil_of_le hout
    | some p =>
      obtain ⟨c, o⟩ := p
      refine (hs.2 tr ta).mono (fun g h v q => q.elim) (fun c' v q => ?_)
      obtain ⟨hc, tk, hv⟩ := q
      refine ⟨o, tk, by rw [hc], ?_⟩
      rw [hlen]; exact hv
  | @piece p r k hp hT =>
    refine (piece_ok hr hlow hp e tr ta).mono (fun g h v R => ⟨_, ⟨p.length, rfl, ?_, .inl ?_⟩, R⟩) (fun c v q => q.elim)
    · simp only [pieces, List.mem_cons, List.not_mem_nil, or_false] at hp
      rcases hp with rfl | rfl | rfl | rfl | rfl | rfl | rfl | rfl | rfl | rfl <;> decide
    · have e1 : row.cps.toList.drop (a + p.length) = List.replicate (k + 1) 32 ++ r := by
        rw [drop_more e, List.drop_left]; rfl
      unfold runE
      rw [e1, runL_blanks _ _ (hT.head hb0), drop_more e1]
      rw [List.drop_append_of_le_length (by simp), List.drop_eq_nil_of_le (by simp)]
      exact hT
theorem told_at {a t : Str} (hne : t ≠ a) (X : Value) (u : Option Value) (l : List (Str × Value)) : (fun y => if y = a then some X else if y = t then u else List.lookup y l) = fun y => if y = t then u else List.lookup y (putA a X l) := by
  funext y
  have e := congrFun (loc_set a X l) y
  by_cases h : y = t
  · subst h; rw [if_neg hne, if_pos rfl, if_pos rfl]
  · rw [if_neg h, if_neg h, ← e]
theorem told_told {t : Str} (Y : Value) (u : Option Value) (l : List (Str × Value)) : (fun y => if y = t then some Y else if y = t then u else List.lookup y l) = fun y => if y = t then some Y else List.lookup y l := by
  funext y
  by_cases h : y = t
  · rw [if_pos h, if_pos h]
  · rw [if_neg h, if_neg h, if_neg h]
theorem loc_set2 (b a : Str) (V X : Value) (l : List (Str × Value)) : (fun y => if y = b then some V else if y = a then some X else List.lookup y l) = fun y => List.lookup y (putA b V (putA a X l)) := by
  funext y
  have e1 := congrFun (loc_set a X l) y
  have e2 := congrFun (loc_set b V (putA a X l)) y
  rw [← e2, ← e1]
theorem turn_map {a t : Str} (hne : t ≠ a) (X' X Y : Value) (u : Option Value) (l : List (Str × Value)) : (fun y => if y = a then some X' else if y = a then some X else if y = t then some Y else if y = t then u else List.lookup y l) = fun y => if y = t then some Y else List.lookup y (putA a X' (putA a X l)) := by
  funext y
  have e1 := congrFun (told_told (t := t) Y u l) y
  have e2 := congrFun (told_at hne X (some Y) l) y
  have e3 := congrFun (told_at hne X' (some Y) (putA a X l)) y
  rw [← e3, ← e2, ← e1]
theorem told_none {t : Str} (l : List (Str × Value)) (h : l.lookup t = none) : (fun y => List.lookup y l) = fun y => if y = t then none else List.lookup y l := by
  funext y
  by_cases e : y = t
  · rw [if_pos e, e, h]
  · rw [if_neg e]
section
variable {w : World} {k : Nat} {f : Addr} {vs : List Value} {P : Heap → Prop} {mean : ExcName → Option Value} {mg mb : Str → Option Value} {dp un : Nat} {gd : Option (List Code)} {cn : Str} {cs : Scope} {L a : Addr} {ccd : Value} {cl : List (Str × Addr)}
  {A₀ : Around} {outer : List Env} {base g h : Heap} {m : Str → Option Value} {news : List (Addr × Obj)} {gs : Array GenState} {dr : Drawn} {tk : Nat} {os : OsState} {Q E : Value → Shared → Prop}
/-- a turn's token and the place behind it -/
theorem Tell.useR {e : Int → Prop} {X : Str → Value → Prop} (C : Tell w k f vs P (fun g h' v => ∃ z, e z ∧ TokRet g h' v z) X) (B : Below A₀ base outer g) (F : Fr g L h m) (N : News g L h news) (XB : (_root_.MineH.hd.heap_1 w.params).In base) (TB : Top _root_.MineH.hd.view_39 (looseW _root_.MineH.hd.view_39 [Str.ofString "BasicError", Str.ofString "PAIRS"]) mean mg mb base) (hk : cs.kind = .function) (hd : dp + k < recursionLimit) (hu : un + 10 * k < cLine) (hp : P h)
    (ret : ∀ h' tk' z t ad l x n, e z → Fr g L h' m → News g L h' ((l, { cls := .type "list", data := .seq #[x] n }) :: (ad, { cls := .type "tuple", data := .seq #[.ref l, .int z t] }) :: news) → AllNe ad news → AllNe l news → l ≠ ad → Q (.ref ad) ⟨h', gs, dr, tk', os⟩)
    (rai : ∀ e h' tk' c v, X c v → Fly w base h (envX cn cs L a ccd cl :: outer) e c v h' → h.UpToSlots h' → E (.ref e) ⟨h', gs, dr, tk', os⟩) :
    CHold (wpAny (model PySem.Challenge.rw_pq0143_01.prog w) (ctx dp un gd (envX cn cs L a ccd cl :: outer)) (call (.ref f) vs) Q E ⟨h, gs, dr, tk, os⟩) :=
  mkC <| Tell.useU C B F N XB TB hk hd hu hp (fun v h' tk' u F' N' r => by
    obtain ⟨z, ez, t, ad, l, x, n, rfl, n1, g1, d1, n2, g2⟩ := r
    exact ret h' tk' z t ad l x n ez F' (News.more F' (News.more F' N' g1 (fun es n q => by cases q) (u _ n1).1) g2 (fun es n q => by cases q) (u _ n2).1) (u _ n1).2 (u _ n2).2 d1) rai
end




theorem not_long {its its2 : Array Value} (h : its.size + its2.size ≤ 2000) : ¬(!its.isEmpty && Builtin.List.listTooLong (its.size + its2.size)) = true := by
  intro q
  rw [Bool.and_eq_true] at q
  have := q.2
  unfold Builtin.List.listTooLong at this
  rw [sizeLine_eq] at this
  simp at this
  omega

theorem tokensOf (w : World) (row : Str) (tr : Tok) (bad : List Nat) (fin : Option (Str × Nat)) (hr : row.length ≤ 1000) (h255 : row.length ≤ 255) (hlow : Low row) (hb : ∀ a, row.cps.toList.drop a = bad → EndSays w row bad fin a) (hb0 : runL isBlk bad = 0) (ht : Tail bad row.cps.toList) :
    Tell w 70 156 [.str row tr] (fun _ => True) (fun _ _ _ => fin = none) (fun c v => ∃ o tk, fin = some (c, o) ∧ v = .int ((row.length - bad.length + o : Nat) : Int) tk) := by
  unfold Tell
  intro mean mg mb dp un gd l base g gs dr tk os Q E B XB TB hd' hu hP ret rai
  revert XB; k_fill; intro XB
  have cLi := cLine_is
  have reci : recursionLimit = 1000 := rfl
  refine wpAny_call ?_
  k_dflt (refine' enterP (l0 := [("row", _)]) ?k1 ?k2 ?k3 ?k6 ?k7 ?k8 ?k9 ?kl ?kB ?_ ?c2 ?c3 ?c4 ?c5; (case k1 => exact B); (case k2 => exact XB); (case k3 => exact TB); (case k6 => k_is); (case k7 => k_is); (case k8 => exact roomZ hd'); (case k9 => exact BindsTo.of_eq rfl); (case kl => exact rfl); (case c5 => decide); (case kB => exact locs rfl); (case c2 => exact rfl); (case c3 => exact rfl); (case c4 => exact rfl); k_whole)
  intro L' h' tk0 F' N' X T
  dsimp only
  k_fold
  (k_with_none; (k_with "ne" => (first | exact ne_gt (by with_reducible assumption) | exact ne_lt (by with_reducible assumption) | with_reducible assumption | exact Ne.symm (by with_reducible assumption) | exact ne_gt (And.left (by with_reducible assumption)) | exact ne_gt (And.left (And.right (by with_reducible assumption))) | exact ne_gt (And.right (by with_reducible assumption)) | exact ne_gt (And.right (And.right (by with_reducible assumption))) | exact ne_lt (And.left (by with_reducible assumption)) | exact ne_lt (And.left (And.right (by with_reducible assumption))) | exact ne_lt (And.right (by with_reducible assumption)) | exact ne_lt (And.right (And.right (by with_reducible assumption))))); (k_with "exec While" => refine holdW ?_); (k_with "call ref" => refine hold34 ?_); (k_with "exec Raise some none" => refine Raise_be rfl ?_); (k_with "call ref" => refine hold86 ?_); (k_with "call ref" => refine hold149 ?_); (k_with "call builtin:list.extend" => (k_dflt (refine' kl_extend ?FKw ?NKw ?bKw (by exact rfl) ?neKw ?UKw ?dKw ?zKw ?yKw ?_; (case FKw => k_asm); (case NKw => k_asm); (case bKw => k_mem); (case UKw => k_upd); (case neKw => simp); (case dKw => exact not_long (by simp; omega)); (case zKw => (rw [sizeLine_eq]; simp; omega)); (case yKw => (rw [sizeLine_eq]; simp; omega))); intro h' F' N'; (try dsimp only at N'); (try k_sweep))); k_steps; repeat' ((first | (k_dflt (refine' Tell.useR (‹Tell _ 60 149 _ _ _ _›) ?B ?F ?N ?XB ?TB ?hk ?hd ?hu ?hp ?_ ?_); (case B => k_asm); (case F => k_asm); (case N => k_asm); (case XB => k_asm); (case TB => k_asm); (case hk => exact rfl); (case hd => first | exact roomD (by assumption) (by decide) | ((try dsimp only [ctx]); omega)); (case hu => first | exact roomC (by assumption) (by decide) | exact roomU (by assumption) (by decide) | ((try dsimp only [ctx]); omega)); (case hp => first | trivial | assumption);  (rotate_left 1; intro e7 h7 k7 c7 v7 x7 fl7 sm7; (try k_unfold); (try dsimp only); refine leave_fly (by k_asm) (by k_asm) fl7 sm7 ?_; refine holdR ?_; rotate_right 1); k_whole; intro h9 tk9 z9 t9 a9 l9 x9 n9 e9 F9 N9c q9 qq9 d9; (replace d9 := neN d9); (dsimp only [AllNe] at q9 qq9); (have nA9 := q9.1); (have nB9 := qq9.1); clear q9 qq9; (try k_sweep); (try dsimp only)) | (k_dflt (refine' Tell.useT (skippedE _ _ _ _ _ ?q1 ?q2) ?B ?F ?N ?XB ?TB ?hk ?hd ?hu ?hp ?_); (case B => k_asm); (case F => k_asm); (case N => k_asm); (case XB => k_asm); (case TB => k_asm); (case hk => exact rfl); (case hd => first | exact roomD (by assumption) (by decide) | ((try dsimp only [ctx] at *); omega)); (case hu => first | exact roomC (by assumption) (by decide) | exact roomU (by assumption) (by decide) | ((try dsimp only [ctx] at *); omega)); (case hp => first | trivial | assumption); (case q1 => assumption); (case q2 => omega); k_whole; intro h9 tk9 t9 F9 N9; (try k_sweep); (try dsimp only)) | (unfold CHold; (k_dflt (refine' mkBE _ _ _ _ _ _ _ _ _ _ _ _ _ _ _ _ _ _ _ _ _ _ _ _ _ ?B ?F ?X ?N ?T ?hk ?hd ?hu ?_; (case B => k_asm); (case F => k_asm); (case X => k_asm); (case N => k_asm); (case T => k_asm); (case hk => exact rfl); (case hd => first | exact roomD (by assumption) (by decide) | ((try dsimp only [ctx] at *); omega)); (case hu => first | exact roomC (by assumption) (by decide) | exact roomU (by assumption) (by decide) | ((try dsimp only [ctx] at *); omega)); k_whole); intro x8 d8 t8 h8 k8 u8 v8 F8 N8 e8 n8; (try k_sweep); (try dsimp only)))); k_steps))
  unfold WHold
  rename Fr _ _ _ _ => F0
  rename News _ _ _ _ => N0
  have F1 := Fr_eq F0 (loc_set2 _ _ _ _ _)
  have F3 := Fr_eq F1 (told_none (t := "told") _ rfl)
  have e0 : runE isBlk row.cps.toList (Int.toNat 0) = 0 := by show runE isBlk row.cps.toList 0 = 0; unfold runE; rw [List.drop_zero, ht.head hb0]
  rw [e0] at F3 N0
  have G0 : Good bad fin (row.cps.toList.drop 0) := .inl ht
  refine while_rule (ι := Nat) (fun i s => ∃ h tk fa its n u ta, s = ⟨h, gs, dr, tk, os⟩ ∧ Fr g L' h (fun y => if y = "told" then u else List.lookup y [("row", .str row tr), ("at", .int i ta), ("found", .ref fa)]) ∧ News g L' h [(fa, W.listOf its n)] ∧ its.size ≤ i ∧ Good bad fin (row.cps.toList.drop i)) (fun i => row.length - i) ?hE ?turn 0 _ ⟨_, _, _, _, _, none, _, rfl, F3, fun p hp => N0 p (.tail _ hp), Nat.le_refl _, G0⟩
  case hE => with_unfolding_all passes_own
  case turn =>
    rintro a s ⟨h, tk, fa, its, n, u, ta, rfl, F2, N2, hz, hG⟩
    clear F0 N0 F1 F3
    dsimp only at F2 hG ⊢
    by_cases hlt : a < row.length
    · have H := turn_says hr hlow hb hb0 hG hlt tr ta
      (k_steps; repeat' ((first | (k_dflt (refine' Tell.useR (‹Tell _ 60 149 _ _ _ _›) ?B ?F ?N ?XB ?TB ?hk ?hd ?hu ?hp ?_ ?_); (case B => k_asm); (case F => k_asm); (case N => k_asm); (case XB => k_asm); (case TB => k_asm); (case hk => exact rfl); (case hd => first | exact roomD (by assumption) (by decide) | ((try dsimp only [ctx]); omega)); (case hu => first | exact roomC (by assumption) (by decide) | exact roomU (by assumption) (by decide) | ((try dsimp only [ctx]); omega)); (case hp => first | trivial | assumption);  (rotate_left 1; intro e7 h7 k7 c7 v7 x7 fl7 sm7; (try k_unfold); (try dsimp only); refine leave_fly (by k_asm) (by k_asm) fl7 sm7 ?_; refine holdR ?_; rotate_right 1); k_whole; intro h9 tk9 z9 t9 a9 l9 x9 n9 e9 F9 N9c q9 qq9 d9; (replace d9 := neN d9); (dsimp only [AllNe] at q9 qq9); (have nA9 := q9.1); (have nB9 := qq9.1); clear q9 qq9; (try k_sweep); (try dsimp only)) | (k_dflt (refine' Tell.useT (skippedE _ _ _ _ _ ?q1 ?q2) ?B ?F ?N ?XB ?TB ?hk ?hd ?hu ?hp ?_); (case B => k_asm); (case F => k_asm); (case N => k_asm); (case XB => k_asm); (case TB => k_asm); (case hk => exact rfl); (case hd => first | exact roomD (by assumption) (by decide) | ((try dsimp only [ctx] at *); omega)); (case hu => first | exact roomC (by assumption) (by decide) | exact roomU (by assumption) (by decide) | ((try dsimp only [ctx] at *); omega)); (case hp => first | trivial | assumption); (case q1 => assumption); (case q2 => omega); k_whole; intro h9 tk9 t9 F9 N9; (try k_sweep); (try dsimp only)) | (unfold CHold; (k_dflt (refine' mkBE _ _ _ _ _ _ _ _ _ _ _ _ _ _ _ _ _ _ _ _ _ _ _ _ _ ?B ?F ?X ?N ?T ?hk ?hd ?hu ?_; (case B => k_asm); (case F => k_asm); (case X => k_asm); (case N => k_asm); (case T => k_asm); (case hk => exact rfl); (case hd => first | exact roomD (by assumption) (by decide) | ((try dsimp only [ctx] at *); omega)); (case hu => first | exact roomC (by assumption) (by decide) | exact roomU (by assumption) (by decide) | ((try dsimp only [ctx] at *); omega)); k_whole); intro x8 d8 t8 h8 k8 u8 v8 F8 N8 e8 n8; (try k_sweep); (try dsimp only)))); k_steps))
      refine WhlIf.yes (by simp [hlt]) ?_
      (k_steps; repeat' ((first | (k_dflt (refine' Tell.useR (‹Tell _ 60 149 _ _ _ _›) ?B ?F ?N ?XB ?TB ?hk ?hd ?hu ?hp ?_ ?_); (case B => k_asm); (case F => k_asm); (case N => k_asm); (case XB => k_asm); (case TB => k_asm); (case hk => exact rfl); (case hd => first | exact roomD (by assumption) (by decide) | ((try dsimp only [ctx]); omega)); (case hu => first | exact roomC (by assumption) (by decide) | exact roomU (by assumption) (by decide) | ((try dsimp only [ctx]); omega)); (case hp => first | trivial | assumption);  (rotate_left 1; intro e7 h7 k7 c7 v7 x7 fl7 sm7; (try k_unfold); (try dsimp only); refine leave_fly (by k_asm) (by k_asm) fl7 sm7 ?_; refine holdR ?_; rotate_right 1); k_whole; intro h9 tk9 z9 t9 a9 l9 x9 n9 e9 F9 N9c q9 qq9 d9; (replace d9 := neN d9); (dsimp only [AllNe] at q9 qq9); (have nA9 := q9.1); (have nB9 := qq9.1); clear q9 qq9; (try k_sweep); (try dsimp only)) | (k_dflt (refine' Tell.useT (skippedE _ _ _ _ _ ?q1 ?q2) ?B ?F ?N ?XB ?TB ?hk ?hd ?hu ?hp ?_); (case B => k_asm); (case F => k_asm); (case N => k_asm); (case XB => k_asm); (case TB => k_asm); (case hk => exact rfl); (case hd => first | exact roomD (by assumption) (by decide) | ((try dsimp only [ctx] at *); omega)); (case hu => first | exact roomC (by assumption) (by decide) | exact roomU (by assumption) (by decide) | ((try dsimp only [ctx] at *); omega)); (case hp => first | trivial | assumption); (case q1 => assumption); (case q2 => omega); k_whole; intro h9 tk9 t9 F9 N9; (try k_sweep); (try dsimp only)) | (unfold CHold; (k_dflt (refine' mkBE _ _ _ _ _ _ _ _ _ _ _ _ _ _ _ _ _ _ _ _ _ _ _ _ _ ?B ?F ?X ?N ?T ?hk ?hd ?hu ?_; (case B => k_asm); (case F => k_asm); (case X => k_asm); (case N => k_asm); (case T => k_asm); (case hk => exact rfl); (case hd => first | exact roomD (by assumption) (by decide) | ((try dsimp only [ctx] at *); omega)); (case hu => first | exact roomC (by assumption) (by decide) | exact roomU (by assumption) (by decide) | ((try dsimp only [ctx] at *); omega)); k_whole); intro x8 d8 t8 h8 k8 u8 v8 F8 N8 e8 n8; (try k_sweep); (try dsimp only)))); k_steps))
      · unfold TEnd
        rename (∃ n, _ = _ ∧ 0 < n ∧ Good _ _ _) => e9
        obtain ⟨n9, hz9, hn9, hg9⟩ := e9
        subst hz9
        refine ⟨runE isBlk row.cps.toList (a + n9), ?_, _, _, _, _, _, some _, _, rfl, Fr_eq (by k_asm) (turn_map (a := "at") (t := "told") (by decide) _ _ _ _ _), fun p hp => (show News _ _ _ (_ :: _ :: _) from by k_asm) p (.tail _ (.tail _ hp)), ?_, hg9⟩
        · unfold runE; omega
        · unfold runE; simp; omega
      · unfold RHold
        intro hh fl sm
        exact rai _ _ _ _ _ (by assumption) fl sm
    · (k_steps; repeat' ((first | (k_dflt (refine' Tell.useR (‹Tell _ 60 149 _ _ _ _›) ?B ?F ?N ?XB ?TB ?hk ?hd ?hu ?hp ?_ ?_); (case B => k_asm); (case F => k_asm); (case N => k_asm); (case XB => k_asm); (case TB => k_asm); (case hk => exact rfl); (case hd => first | exact roomD (by assumption) (by decide) | ((try dsimp only [ctx]); omega)); (case hu => first | exact roomC (by assumption) (by decide) | exact roomU (by assumption) (by decide) | ((try dsimp only [ctx]); omega)); (case hp => first | trivial | assumption);  (rotate_left 1; intro e7 h7 k7 c7 v7 x7 fl7 sm7; (try k_unfold); (try dsimp only); refine leave_fly (by k_asm) (by k_asm) fl7 sm7 ?_; refine holdR ?_; rotate_right 1); k_whole; intro h9 tk9 z9 t9 a9 l9 x9 n9 e9 F9 N9c q9 qq9 d9; (replace d9 := neN d9); (dsimp only [AllNe] at q9 qq9); (have nA9 := q9.1); (have nB9 := qq9.1); clear q9 qq9; (try k_sweep); (try dsimp only)) | (k_dflt (refine' Tell.useT (skippedE _ _ _ _ _ ?q1 ?q2) ?B ?F ?N ?XB ?TB ?hk ?hd ?hu ?hp ?_); (case B => k_asm); (case F => k_asm); (case N => k_asm); (case XB => k_asm); (case TB => k_asm); (case hk => exact rfl); (case hd => first | exact roomD (by assumption) (by decide) | ((try dsimp only [ctx] at *); omega)); (case hu => first | exact roomC (by assumption) (by decide) | exact roomU (by assumption) (by decide) | ((try dsimp only [ctx] at *); omega)); (case hp => first | trivial | assumption); (case q1 => assumption); (case q2 => omega); k_whole; intro h9 tk9 t9 F9 N9; (try k_sweep); (try dsimp only)) | (unfold CHold; (k_dflt (refine' mkBE _ _ _ _ _ _ _ _ _ _ _ _ _ _ _ _ _ _ _ _ _ _ _ _ _ ?B ?F ?X ?N ?T ?hk ?hd ?hu ?_; (case B => k_asm); (case F => k_asm); (case X => k_asm); (case N => k_asm); (case T => k_asm); (case hk => exact rfl); (case hd => first | exact roomD (by assumption) (by decide) | ((try dsimp only [ctx] at *); omega)); (case hu => first | exact roomC (by assumption) (by decide) | exact roomU (by assumption) (by decide) | ((try dsimp only [ctx] at *); omega)); k_whole); intro x8 d8 t8 h8 k8 u8 v8 F8 N8 e8 n8; (try k_sweep); (try dsimp only)))); k_steps))
      refine WhlIf.no (by simp; omega) ?_
      (k_steps; repeat' ((first | (k_dflt (refine' Tell.useR (‹Tell _ 60 149 _ _ _ _›) ?B ?F ?N ?XB ?TB ?hk ?hd ?hu ?hp ?_ ?_); (case B => k_asm); (case F => k_asm); (case N => k_asm); (case XB => k_asm); (case TB => k_asm); (case hk => exact rfl); (case hd => first | exact roomD (by assumption) (by decide) | ((try dsimp only [ctx]); omega)); (case hu => first | exact roomC (by assumption) (by decide) | exact roomU (by assumption) (by decide) | ((try dsimp only [ctx]); omega)); (case hp => first | trivial | assumption);  (rotate_left 1; intro e7 h7 k7 c7 v7 x7 fl7 sm7; (try k_unfold); (try dsimp only); refine leave_fly (by k_asm) (by k_asm) fl7 sm7 ?_; refine holdR ?_; rotate_right 1); k_whole; intro h9 tk9 z9 t9 a9 l9 x9 n9 e9 F9 N9c q9 qq9 d9; (replace d9 := neN d9); (dsimp only [AllNe] at q9 qq9); (have nA9 := q9.1); (have nB9 := qq9.1); clear q9 qq9; (try k_sweep); (try dsimp only)) | (k_dflt (refine' Tell.useT (skippedE _ _ _ _ _ ?q1 ?q2) ?B ?F ?N ?XB ?TB ?hk ?hd ?hu ?hp ?_); (case B => k_asm); (case F => k_asm); (case N => k_asm); (case XB => k_asm); (case TB => k_asm); (case hk => exact rfl); (case hd => first | exact roomD (by assumption) (by decide) | ((try dsimp only [ctx] at *); omega)); (case hu => first | exact roomC (by assumption) (by decide) | exact roomU (by assumption) (by decide) | ((try dsimp only [ctx] at *); omega)); (case hp => first | trivial | assumption); (case q1 => assumption); (case q2 => omega); k_whole; intro h9 tk9 t9 F9 N9; (try k_sweep); (try dsimp only)) | (unfold CHold; (k_dflt (refine' mkBE _ _ _ _ _ _ _ _ _ _ _ _ _ _ _ _ _ _ _ _ _ _ _ _ _ ?B ?F ?X ?N ?T ?hk ?hd ?hu ?_; (case B => k_asm); (case F => k_asm); (case X => k_asm); (case N => k_asm); (case T => k_asm); (case hk => exact rfl); (case hd => first | exact roomD (by assumption) (by decide) | ((try dsimp only [ctx] at *); omega)); (case hu => first | exact roomC (by assumption) (by decide) | exact roomU (by assumption) (by decide) | ((try dsimp only [ctx] at *); omega)); k_whole); intro x8 d8 t8 h8 k8 u8 v8 F8 N8 e8 n8; (try k_sweep); (try dsimp only)))); k_steps))
      ((try dsimp only); (try (first | k_unfold | dsimp only [qk])); (try dsimp only); unfold LeaveP; dsimp only; refine ret _ _ _ (Fr.keep (by k_asm)) ?_; try dsimp only)
      rcases hG with hG | hG
      · have hd := List.drop_eq_nil_of_le (as := row.cps.toList) (i := a) (by rw [row_len]; omega)
        rw [hd] at hG
        generalize e : ([] : List Nat) = t at hG
        cases hG with
        | bad =>
          have := hb a (hd.trans e)
          cases fin with
          | none => rfl
          | some p => exact absurd e.symm this.1
        | piece k hp _ => simp only [pieces, List.mem_cons, List.not_mem_nil, or_false] at hp; rcases hp with rfl | rfl | rfl | rfl | rfl | rfl | rfl | rfl | rfl | rfl <;> cases e
      · exact hG.2
end Mine
/-! CT -/
namespace Mine
theorem start_CT : True := by
  w_top off
  trivial
section
variable {w : World} {A₀ : Around} {E : Value → Shared → Prop} {s' : Shared} {base g G : Heap} {outer : List Env} {L a e : Addr} {m : Str → Option Value} {name : Str} {scope : Scope} {cd : Value} {c n : Str} {v : Value}
  {b₀ : Stmt} {suite : List Stmt} {pos np : Pos} {rest : List ExceptHandler} {Q : Flow → Shared → Prop} {mean : ExcName → Option Value} {mg mb : Str → Option Value}
/-- the exception object as it lies when it is caught -/
abbrev caughtObj (d : Addr) (vs : Array Value) (sl : Array (Option Value)) : Obj := { cls := .ref 34, dict := some d, data := .fields vs, slots := sl }
theorem be_name (w : World) (hp : PySem.Challenge.rw_pq0143_01.prog = PySem.Challenge.rw_pq0143_01.prog) : nsIn (_root_.MineH.hd.heap_1 w.params) mainGlobals "BasicError" = some (some (.ref 34)) := by
  revert hp; k_fill; intro hp
  k_is
theorem caught_be (R : Fly w base G (envOf name scope L a cd :: outer) e c v s'.heap) (F : Fr g L G m) (K : Below A₀ base outer g) (hsm : G.UpToSlots s'.heap) (XB : (_root_.MineH.hd.heap_1 w.params).In base) (TB : Top _root_.MineH.hd.view_39 (looseW _root_.MineH.hd.view_39 [Str.ofString "BasicError", Str.ofString "PAIRS"]) mean mg mb base)
    (D : KtsDicts (outer.filterMap (·.frame)) g)
    (k : ∀ h' g' d vs sl tc t1 t2 tk, KtsTurn (outer.filterMap (·.frame)) g g' → Fr g' L h' (fun y => if y = n then some (.ref e) else m y) → News g' L h' [(e, caughtObj d vs sl), (d, beDict w c tc v t1 t2)] → d ≠ e → Below A₀ base outer g' → (_root_.MineH.hd.heap_1 w.params).In g' → Top _root_.MineH.hd.view_39 (looseW _root_.MineH.hd.view_39 [Str.ofString "BasicError", Str.ofString "PAIRS"]) mean mg mb g' → KtsDicts (outer.filterMap (·.frame)) g' →
      wpAny (model PySem.Challenge.rw_pq0143_01.prog w) ((A₀.deeper (envOf name scope L a cd)).mark (some (.ref e))) (execs (b₀ :: suite) (envOf name scope L a cd))
        (fun f s₄ => wpAny (model PySem.Challenge.rw_pq0143_01.prog w) (A₀.deeper (envOf name scope L a cd)) (do bindName (envOf name scope L a cd) n .none; unbindBehindTheSuite (envOf name scope L a cd) n pos) (fun _ s₅ => Q f s₅) E s₄)
        (AsSuiteRaised (model PySem.Challenge.rw_pq0143_01.prog w) ((A₀.deeper (envOf name scope L a cd)).mark (some (.ref e))) (envOf name scope L a cd) n pos (notedBy (model PySem.Challenge.rw_pq0143_01.prog w) ((A₀.deeper (envOf name scope L a cd)).mark (some (.ref e))) (envOf name scope L a cd) (cameBackBy (model PySem.Challenge.rw_pq0143_01.prog w) (A₀.deeper (envOf name scope L a cd)) (envOf name scope L a cd) E)))
        { s' with heap := h', toks := tk })
    (hk : scope.kind = .function := by rfl) (hlo : (envOf name scope L a cd).kindOf n = some .local := by rfl) (hx : (envOf name scope L a cd).kindOf "BasicError" = some .globalImplicit := by rfl) :
    wpAny (model PySem.Challenge.rw_pq0143_01.prog w) (A₀.deeper (envOf name scope L a cd)) (noteFrame (.ref e) (envOf name scope L a cd))
      (fun _ s₂ => wpAny (model PySem.Challenge.rw_pq0143_01.prog w) (A₀.deeper (envOf name scope L a cd)) (setFlight (.ref e) none) (fun _ s₃ =>
        wpAny (model PySem.Challenge.rw_pq0143_01.prog w) (A₀.deeper (envOf name scope L a cd)) (handleBy (.ref e) (envOf name scope L a cd) (.ExceptHandler (some (.Name "BasicError" np)) (some n) (b₀ :: suite) pos :: rest)) Q E s₃) E s₂) E s' := by
  obtain ⟨B, d, tc, t1, t2, hB, hBG, hBd, hGd, hBh, hBe, hff, hmk⟩ := R
  have hL : B.get? L = none := by
    obtain ⟨_, ⟨L', _, hf, hn', _⟩, _⟩ := hff
    obtain rfl : L = L' := Option.some.inj hf
    exact hn'
  refine note_next (Around.frames_deeper K.stack) hff rfl hmk hBh hBe fun h₄ a1 a2 a3 a4 => ?_
  refine flight_none a1 a2 a3 fun h₅ b1 b2 b3 b4 => ?_
  have hsm₅ := (hsm.trans a4).trans b4
  obtain ⟨g₅, T₅, F₅, K₅⟩ := kts_ground K F hBG b1 hsm₅
  have X₅ : (_root_.MineH.hd.heap_1 w.params).In g₅ := XB.keeps K₅.stays
  have P₅ : TopRead _root_.MineH.hd.view_39 (looseW _root_.MineH.hd.view_39 [Str.ofString "BasicError", Str.ofString "PAIRS"]) mg mb g₅ := topRead_of (TB.keeps K₅.stays)
  have b3' := b3
  obtain ⟨vs, T, oT, ts, ⟨sl, he⟩, _⟩ := b3'
  obtain ⟨nm, q', N, bs, hdct, sn, sub, ab, col, dd, k0, k1, k2, k3, k5, hC⟩ := cls34 w _ rfl X₅
  have hC₅ := F₅.keep _ _ hC
  refine wpAny_handleBy_cons (codeAny_handlers_test (name_K F₅ X₅ P₅ (be_name w rfl) ?_ hk hx)) (by intro q; cases q)
  refine wpAny_excMatches_sub_self hC₅ he rfl (by decide) (codeAny_handlers_suite_as ?_)
  refine flight_none b1 b2 b3 fun h₆ c1 c2 c3 c4 => ?_
  have hsm₆ := hsm₅.trans c4
  obtain ⟨g₆, T₆, F₆, K₆⟩ := kts_ground K F hBG c1 hsm₆
  obtain ⟨vs₆, T', oT', ts', ⟨sl₆, he₆⟩, _⟩ := c3
  have ne₆ : g₆.get? e = none := T₆.none_ _ (kts_fresh F hBG hBe fun o ho m => by
    obtain ⟨_, o', ho', hd⟩ := K.frames.mem m
    rw [ho] at ho'
    cases ho'
    obtain ⟨sl, hs⟩ := hsm₆ _ _ (F.keep _ _ ho) hd
    rw [he₆] at hs
    have hdat := congrArg (fun x : Option Obj => x.map (·.data)) hs
    exact hd vs₆ (Option.some.inj hdat).symm)
  have nd₆ : g₆.get? d = none := T₆.none_ _ (kts_none F.keep hGd)
  have dL : d ≠ L := fun z => by rw [z, hL] at hBd; cases hBd
  have de : d ≠ e := fun z => by rw [z, hBe] at hBd; cases hBd
  have N₆ : News g₆ L h₆ [(e, caughtObj d vs₆ sl₆), (d, beDict w c tc v t1 t2)] := by
    intro p hp
    rcases List.mem_cons.mp hp with rfl | hp
    · refine ⟨he₆, fun z => ?_, ne₆⟩
      obtain ⟨oL, es, ep, hoL, hd, _⟩ := F₆.ns
      have z' : e = L := z
      rw [z', hoL] at he₆
      cases he₆
      cases hd
    · rcases List.mem_cons.mp hp with rfl | hp
      · exact ⟨c1 _ _ hBd, dL, nd₆⟩
      · cases hp
  refine stN F₆ N₆ (fun h₇ F₇ N₇ => ?_) hk hlo
  exact k h₇ g₆ d _ _ tc t1 t2 _ T₆ F₇ N₇ de K₆ (XB.keeps K₆.stays) (TB.keeps K₆.stays) (D.turn T₆)
end
end Mine
/-! BA -/
namespace Mine
theorem start_BA : True := by
  w_top off
  trivial
section
variable {prog : Program} {w : World} {A : Around} {E : Value → Shared → Prop} {h : Heap} {g : Array GenState} {d : Drawn} {t : Nat} {os : OsState} {K : Frag} {x : Addr} {ox : Obj} {od : Option Obj}
theorem bx_kind : builtinKind "BaseException.__getattribute__" = some .slot := by decide +kernel
theorem bx_split : splitId "BaseException.__getattribute__" = some ("BaseException", "__getattribute__") := by decide +kernel
theorem be_attr {name : Str} {v : Value} {Q : Value → Shared → Prop} {expr : Bool} (X : K.In h) (I : InstAt h x ox 34 od)
    (hga : findIn K (.ref 34) "__getattribute__" = some (some (.builtin "BaseException.__getattribute__"))) (hgt : findIn K (.ref 34) "__getattr__" = some none) (hin : mroIn K 34 (.type "BaseException") = some true)
    (hf : findObj K 34 od name = some (.value v)) (hh : handedIn v = true) (hq : Q v ⟨h, g, d, t + 1, os⟩) : wpAny (model prog w) A (getAttr (.ref x) name expr) Q E ⟨h, g, d, t, os⟩ := by
  have L0 := I.type (M := model prog w)
  have L1 := looks_findIn (M := model prog w) X hga
  have L2 := looks_findIn (M := model prog w) X hgt
  have L3 := looks_find (M := model prog w) X I hf
  unfold getAttr getAttrBy
  refine wpAny_bind (wpAny_mkText (wpAny_holding (wpAny_bind (L0.at (wpAny_bind (L1.at ?_))))))
  show wpAny _ _ (getAttrByItsOwn (.ref x) (.str name t) (.ref 34) (.builtin "BaseException.__getattribute__") true expr) _ _ _
  unfold getAttrByItsOwn hookBefore callGetattribute boundAndCalled
  show wpAny _ _ (typeLookup (.ref 34) "__getattr__" >>= _) _ _ _
  refine wpAny_bind (L2.at ?_)
  refine wpAny_bind (wpAny_attempt (wpAny_holding ?_))
  have hx0 : (expr && onTheHeap (Value.builtin "BaseException.__getattribute__")) = false := by cases expr <;> rfl
  rw [if_neg (by rw [hx0]; decide)]
  refine wpAny_bind (wpAny_of_eq (PySem.F.attrBase_Exception.ga.bind _) ?_)
  dsimp only [List.nil_append, List.cons_append]
  have sub : Looks (model prog w) h (isInstance (.ref x) (.type "BaseException")) true := I.type.andThen (looks_mroIn X hin)
  refine wpAny_call (codeAny_call_builtin PySem.F.attrBase_Exception.ga.plain PySem.F.entry_bexc_ga (@check_slot (model prog w) _ _ ⟨h, g, d, t + 1, os⟩ "BaseException.__getattribute__" "BaseException" "__getattribute__" (.ref x) [.str name _] [] _ bx_kind bx_split sub (PySem.F.args_bexc_ga (.ref x) (.str name _)) ?_))
  unfold Builtin.«object.__getattribute__»
  repeat (first | lk | wp_step)
  show wpAny _ _ (handedOut v) _ _ _
  rw [handedOut_of hh]
  exact wpAny_pure hq
end
section
variable {w : World} {A : Around} {E : Value → Shared → Prop} {h : Heap} {gs : Array GenState} {dr : Drawn} {t : Nat} {os : OsState} {x d : Addr} {vs : Array Value} {sl : Array (Option Value)} {c : Str} {tc t1 t2 : Tok} {v : Value} {Q : Value → Shared → Prop} {expr : Bool}
theorem be_code (hp : PySem.Challenge.rw_pq0143_01.prog = PySem.Challenge.rw_pq0143_01.prog) (X : (_root_.MineH.hd.heap_1 w.params).In h) (hx : h.get? x = some (caughtObj d vs sl)) (hd : h.get? d = some (beDict w c tc v t1 t2)) (hq : Q (.str c tc) ⟨h, gs, dr, t + 1, os⟩) :
    wpAny (model PySem.Challenge.rw_pq0143_01.prog w) A (getAttr (.ref x) "code" expr) Q E ⟨h, gs, dr, t, os⟩ := by
  revert hp X; k_fill; intro hp X
  have I : InstAt h x (caughtObj d vs sl) 34 (some (beDict w c tc v t1 t2)) := ⟨hx, rfl, rfl, hd⟩
  exact be_attr X I (by k_is) (by k_is) (by k_is) (findObj_own (by k_is) (by k_is) (by k_is) (by rfl)) rfl hq
theorem be_told (hp : PySem.Challenge.rw_pq0143_01.prog = PySem.Challenge.rw_pq0143_01.prog) (X : (_root_.MineH.hd.heap_1 w.params).In h) (hx : h.get? x = some (caughtObj d vs sl)) (hd : h.get? d = some (beDict w c tc v t1 t2)) (hv : handedIn v = true) (hq : Q v ⟨h, gs, dr, t + 1, os⟩) :
    wpAny (model PySem.Challenge.rw_pq0143_01.prog w) A (getAttr (.ref x) "told" expr) Q E ⟨h, gs, dr, t, os⟩ := by
  revert hp X; k_fill; intro hp X
  have I : InstAt h x (caughtObj d vs sl) 34 (some (beDict w c tc v t1 t2)) := ⟨hx, rfl, rfl, hd⟩
  exact be_attr X I (by k_is) (by k_is) (by k_is) (findObj_own (by k_is) (by k_is) (by k_is) (by rfl)) hv hq
end
/-- what stands stands, but for the slots of the frames l -/
def StaysF (l : List Env) (g h' : Heap) : Prop := (∀ b o, g.get? b = some o → b ∉ l.filterMap (·.frame) → h'.get? b = some o) ∧ (∀ b o, g.get? b = some o → b ∈ l.filterMap (·.frame) → ∃ sl, h'.get? b = some { o with slots := sl })
theorem StaysF.of {l : List Env} {g g₁ h' : Heap} (T : KtsTurn (l.filterMap (·.frame)) g g₁) (k : ∀ b o, g₁.get? b = some o → h'.get? b = some o) : StaysF l g h' :=
  ⟨fun b o e m => k b o (T.other b o e m), fun b o e m => let ⟨sl, q⟩ := T.frame b o e m; ⟨sl, k b _ q⟩⟩
theorem StaysF.same {l : List Env} {g h' : Heap} (k : ∀ b o, g.get? b = some o → h'.get? b = some o) : StaysF l g h' := ⟨fun b o e _ => k b o e, fun b o e _ => ⟨o.slots, k b o e⟩⟩
/-- what a call gives that may catch: it returns -/
def TellT (w : World) (k : Nat) (f : Addr) (vs : List Value) (P : Heap → Prop) (R : Heap → Heap → Value → Prop) : Prop :=
  ∀ (mean : ExcName → Option Value) (mg mb : Str → Option Value) (dp un : Nat) (gd : Option (List Code)) (l : List Env) (base g : Heap) (gs : Array GenState) (dr : Drawn) (tk : Nat) (os : OsState) (Q E : Value → Shared → Prop),
    Below (ctx dp un gd l) base l g → (_root_.MineH.hd.heap_1 w.params).In base → Top _root_.MineH.hd.view_39 (looseW _root_.MineH.hd.view_39 [Str.ofString "BasicError", Str.ofString "PAIRS"]) mean mg mb base → KtsDicts (l.filterMap (·.frame)) g → dp + k < recursionLimit → un + 10 * k < cLine → P g →
    (∀ v h' tk', StaysF l g h' → R g h' v → Q v ⟨h', gs, dr, tk', os⟩) →
    wpAny (model PySem.Challenge.rw_pq0143_01.prog w) (ctx dp un gd l) (call (.ref f) vs) Q E ⟨g, gs, dr, tk, os⟩
theorem TellT.use {w : World} {k : Nat} {f : Addr} {vs : List Value} {P : Heap → Prop} {R : Heap → Heap → Value → Prop} {mean : ExcName → Option Value} {mg mb : Str → Option Value} {dp un : Nat} {gd : Option (List Code)} {cn : Str} {cs : Scope} {L a : Addr} {ccd : Value} {cl : List (Str × Addr)}
    {A₀ : Around} {outer : List Env} {base g : Heap} {m : Str → Option Value} {news : List (Addr × Obj)} {s : Shared} {Q E : Value → Shared → Prop}
    (C : TellT w k f vs P R) (B : Below A₀ base outer g) (F : Fr g L s.heap m) (N : News g L s.heap news) (XB : (_root_.MineH.hd.heap_1 w.params).In base) (TB : Top _root_.MineH.hd.view_39 (looseW _root_.MineH.hd.view_39 [Str.ofString "BasicError", Str.ofString "PAIRS"]) mean mg mb base) (D : KtsDicts (outer.filterMap (·.frame)) g) (hk : cs.kind = .function)
    (hd : dp + k < recursionLimit) (hu : un + 10 * k < cLine) (hp : P s.heap)
    (ret : ∀ v h' tk' g₁, KtsTurn (outer.filterMap (·.frame)) g g₁ → (∀ b, s.heap.get? b = none → g₁.get? b = none ∧ AllNe b news) → Fr g₁ L h' m → News g₁ L h' news → Below A₀ base outer g₁ → (_root_.MineH.hd.heap_1 w.params).In g₁ → Top _root_.MineH.hd.view_39 (looseW _root_.MineH.hd.view_39 [Str.ofString "BasicError", Str.ofString "PAIRS"]) mean mg mb g₁ → KtsDicts (outer.filterMap (·.frame)) g₁ → R s.heap h' v → Q v { s with heap := h', toks := tk' }) :
    wpAny (model PySem.Challenge.rw_pq0143_01.prog w) (ctx dp un gd (envX cn cs L a ccd cl :: outer)) (call (.ref f) vs) Q E s := by
  obtain ⟨h, gs, dr, tk, os⟩ := s
  have B' := pushX (env := envX cn cs L a ccd cl) B F rfl hk
  have frames : (envX cn cs L a ccd cl :: outer).filterMap (·.frame) = L :: outer.filterMap (·.frame) := rfl
  have D' : KtsDicts ((envX cn cs L a ccd cl :: outer).filterMap (·.frame)) h := by
    rw [frames]
    intro b hb
    rcases List.mem_cons.mp hb with rfl | hb
    · obtain ⟨oL, es, ep, hL, hd, _⟩ := F.ns
      exact ⟨oL, es, ep, hL, hd⟩
    · obtain ⟨o, es, n, ho, hd⟩ := D b hb
      exact ⟨o, es, n, F.keep _ _ ho, hd⟩
  refine C mean mg mb dp un gd _ base h gs dr tk os Q E ⟨rfl, B'.stays, B'.frames⟩ XB TB D' hd hu hp fun v h' tk' st r => ?_
  have hLg := kts_self F
  have keepO : ∀ b o, g.get? b = some o → b ∉ outer.filterMap (·.frame) → h'.get? b = some o := fun b o e nm => st.1 b o (F.keep b o e) (by
    rw [frames]
    intro hm
    rcases List.mem_cons.mp hm with rfl | hm
    · rw [hLg] at e; cases e
    · exact nm hm)
  obtain ⟨T, S⟩ := kts_turn_at (h := h') (fs := outer.filterMap (·.frame)) (g := g) (fun b hb => by
      obtain ⟨_, o, ho, _⟩ := B.frames.mem hb
      exact ⟨o, ho⟩) keepO (fun b o e hm => st.2 b o (F.keep b o e) (by rw [frames]; exact List.mem_cons_of_mem _ hm))
  have Bg : Below A₀ base outer (ktsHeap h' (outer.filterMap (·.frame)) g) := ⟨B.stack, fun b o e => T.other b o (B.stays b o e) (fun hm => by rw [(B.frames.mem hm).1] at e; cases e), B.frames.of_keeps fun b o e _ => by
    obtain ⟨sl, hs⟩ := T.up e
    exact ⟨_, hs, rfl⟩⟩
  refine ret v h' tk' _ T (fun b hb => ⟨T.none_ b (kts_none F.keep hb), allNe_of fun p hp q => by
    have := N.get hp; rw [q, hb] at this; cases this⟩) ⟨?_, S, by rw [T.size]; exact F.above⟩ (fun p hp => ?_) Bg (XB.keeps Bg.stays) (TB.keeps Bg.stays) (D.turn T) r
  · obtain ⟨oL, es, ep, hL, hd, q⟩ := F.ns
    obtain ⟨sl, hs⟩ := st.2 L oL hL (by rw [frames]; exact List.mem_cons_self)
    exact ⟨_, es, ep, hs, hd, q⟩
  · obtain ⟨n1, n2, n3⟩ := N p hp
    refine ⟨st.1 _ _ n1 (by
      rw [frames]
      intro hm
      rcases List.mem_cons.mp hm with q | hm
      · exact n2 q
      · obtain ⟨o, es, n, ho, hd⟩ := D _ hm
        rw [n3] at ho; cases ho), n2, T.none_ _ n3⟩
theorem turn_back {fs : List Addr} {g g₁ : Heap} (T : KtsTurn fs g g₁) {b : Addr} (e : g₁.get? b = none) : g.get? b = none := by
  cases q : g.get? b with
  | none => rfl
  | some o => obtain ⟨sl, hs⟩ := T.up q; rw [e] at hs; cases hs
end Mine
/-! T13 -/
namespace Mine
theorem start_T13 : True := by
  w_top off
  trivial

theorem tokensLong (w : World) (row : Str) (tr : Tok) (hr : row.length ≤ 1000) (h255 : ¬ row.length ≤ 255) :
    Tell w 70 156 [.str row tr] (fun _ => True) (fun _ _ _ => False) (fun c v => c = "SN" ∧ ∃ tk, v = .int 255 tk) := by
  unfold Tell
  intro mean mg mb dp un gd l base g gs dr tk os Q E B XB TB hd' hu hP ret rai
  revert XB; k_fill; intro XB
  have cLi := cLine_is
  have reci : recursionLimit = 1000 := rfl
  refine wpAny_call ?_
  k_dflt (refine' enterP (l0 := [("row", _)]) ?k1 ?k2 ?k3 ?k6 ?k7 ?k8 ?k9 ?kl ?kB ?_ ?c2 ?c3 ?c4 ?c5; (case k1 => exact B); (case k2 => exact XB); (case k3 => exact TB); (case k6 => k_is); (case k7 => k_is); (case k8 => exact roomZ hd'); (case k9 => exact BindsTo.of_eq rfl); (case kl => exact rfl); (case c5 => decide); (case kB => exact locs rfl); (case c2 => exact rfl); (case c3 => exact rfl); (case c4 => exact rfl); k_whole)
  intro L' h' tk0 F' N' X T
  dsimp only
  k_fold
  (k_with_none; (k_with "ne" => (first | exact ne_gt (by with_reducible assumption) | exact ne_lt (by with_reducible assumption) | with_reducible assumption | exact Ne.symm (by with_reducible assumption) | exact ne_gt (And.left (by with_reducible assumption)) | exact ne_gt (And.left (And.right (by with_reducible assumption))) | exact ne_gt (And.right (by with_reducible assumption)) | exact ne_gt (And.right (And.right (by with_reducible assumption))) | exact ne_lt (And.left (by with_reducible assumption)) | exact ne_lt (And.left (And.right (by with_reducible assumption))) | exact ne_lt (And.right (by with_reducible assumption)) | exact ne_lt (And.right (And.right (by with_reducible assumption))))); (k_with "call ref" => refine hold34 ?_); (k_with "exec Raise some none" => refine Raise_be rfl ?_); k_steps; repeat' ((first | (unfold CHold; (k_dflt (refine' mkBE _ _ _ _ _ _ _ _ _ _ _ _ _ _ _ _ _ _ _ _ _ _ _ _ _ ?B ?F ?X ?N ?T ?hk ?hd ?hu ?_; (case B => k_asm); (case F => k_asm); (case X => k_asm); (case N => k_asm); (case T => k_asm); (case hk => exact rfl); (case hd => first | exact roomD (by assumption) (by decide) | ((try dsimp only [ctx] at *); omega)); (case hu => first | exact roomC (by assumption) (by decide) | exact roomU (by assumption) (by decide) | ((try dsimp only [ctx] at *); omega)); k_whole); intro x8 d8 t8 h8 k8 u8 v8 F8 N8 e8 n8; (try k_sweep); (try dsimp only)))); k_steps))
  (refine ⟨_, _, _, rfl, X.keeps (Fr.keep (by k_asm)), News.get (by k_asm) (.tail _ (.head _)), ?_⟩; (try k_unfold); (try dsimp only); refine leave_made B (by k_asm) (by k_asm) (by assumption) fun hh1 fl1 sm1 => ?_; refine rai _ _ _ _ _ ?_ fl1 sm1)
  exact ⟨rfl, _, rfl⟩
/-- what _law_refusal hands back -/
def RefRet (Rr : Prop) (X : Str → Value → Prop) (g h' : Heap) (v : Value) : Prop :=
  (v = .none ∧ Rr) ∨ ∃ c p ad tc, X c p ∧ v = .ref ad ∧ g.get? ad = none ∧ h'.get? ad = some { cls := .type "tuple", data := .seq #[.str c tc, p] }



theorem refTokens (w : World) (x : Value) (X : Str → Value → Prop) (Rr : Prop) (tw : Tok) (hX : ∀ c v, X c v → handedIn v = true) (H : Tell w 70 156 [x] (fun _ => True) (fun _ _ _ => Rr) X) :
    TellT w 80 277 [.str "tokens" tw, x] (fun _ => True) (RefRet Rr X) := by
  unfold TellT
  intro mean mg mb dp un gd l base g gs dr tk os Q E B XB TB D hd' hu hP ret
  revert XB; k_fill; intro XB
  have cLi := cLine_is
  have reci : recursionLimit = 1000 := rfl
  refine wpAny_call ?_
  k_dflt (refine' enterP (l0 := [("given", _), ("way", _)]) ?k1 ?k2 ?k3 ?k6 ?k7 ?k8 ?k9 ?kl ?kB ?_ ?c2 ?c3 ?c4 ?c5; (case k1 => exact B); (case k2 => exact XB); (case k3 => exact TB); (case k6 => k_is); (case k7 => k_is); (case k8 => exact roomZ hd'); (case k9 => exact BindsTo.of_eq rfl); (case kl => exact rfl); (case c5 => decide); (case kB => exact locs rfl); (case c2 => exact rfl); (case c3 => exact rfl); (case c4 => exact rfl); k_whole)
  intro L' h' tk0 F' N' X T
  dsimp only
  k_fold
  (k_with_none; (k_with "ne" => (first | exact ne_gt (by with_reducible assumption) | exact ne_lt (by with_reducible assumption) | with_reducible assumption | exact Ne.symm (by with_reducible assumption) | exact ne_gt (And.left (by with_reducible assumption)) | exact ne_gt (And.left (And.right (by with_reducible assumption))) | exact ne_gt (And.right (by with_reducible assumption)) | exact ne_gt (And.right (And.right (by with_reducible assumption))) | exact ne_lt (And.left (by with_reducible assumption)) | exact ne_lt (And.left (And.right (by with_reducible assumption))) | exact ne_lt (And.right (by with_reducible assumption)) | exact ne_lt (And.right (And.right (by with_reducible assumption))))); (k_with "call ref" => refine hold34 ?_); (k_with "exec Raise some none" => refine Raise_be rfl ?_); (k_with "call ref" => refine hold156 ?_); (k_with "getAttr ref" => ((with_reducible refine' be_code rfl ?XKw ?xKw ?dKw ?_); (case XKw => exact Frag.In.keeps (by k_asm) (Fr.keep (by k_asm))); (case xKw => exact News.get (by k_asm) (.head _)); (case dKw => exact News.get (by k_asm) (.tail _ (.head _))))); (k_with "getAttr ref" => ((with_reducible refine' be_told rfl ?XKw ?xKw ?dKw ?vKw ?_); (case XKw => exact Frag.In.keeps (by k_asm) (Fr.keep (by k_asm))); (case xKw => exact News.get (by k_asm) (.head _)); (case dKw => exact News.get (by k_asm) (.tail _ (.head _))); (case vKw => assumption))); k_steps; repeat' ((first | (unfold CHold; (k_dflt (refine' Tell.use (‹Tell _ 70 156 _ _ _ _›) ?B ?F ?N ?XB ?TB ?hk ?hd ?hu ?hp ?_ ?_); (case B => k_asm); (case F => k_asm); (case N => k_asm); (case XB => k_asm); (case TB => k_asm); (case hk => exact rfl); (case hd => first | exact roomD (by assumption) (by decide) | ((try dsimp only [ctx] at *); omega)); (case hu => first | exact roomC (by assumption) (by decide) | exact roomU (by assumption) (by decide) | ((try dsimp only [ctx] at *); omega)); (case hp => first | trivial | assumption);  (rotate_left 1; intro e7 h7 k7 c7 v7 x7 fl7 sm7; refine holdR ?_; rotate_right 1); k_whole; intro v9 h9 tk9 st9 F9 N9 r9; (try dsimp only at r9); (first | subst r9 | (obtain ⟨t9, r9⟩ := r9; subst r9) | (obtain ⟨n9, t9, r9, e9⟩ := r9; subst r9) | skip); (try k_sweep); (try dsimp only))) | (unfold CHold; (k_dflt (refine' mkBE _ _ _ _ _ _ _ _ _ _ _ _ _ _ _ _ _ _ _ _ _ _ _ _ _ ?B ?F ?X ?N ?T ?hk ?hd ?hu ?_; (case B => k_asm); (case F => k_asm); (case X => k_asm); (case N => k_asm); (case T => k_asm); (case hk => exact rfl); (case hd => first | exact roomD (by assumption) (by decide) | ((try dsimp only [ctx] at *); omega)); (case hu => first | exact roomC (by assumption) (by decide) | exact roomU (by assumption) (by decide) | ((try dsimp only [ctx] at *); omega)); k_whole); intro x8 d8 t8 h8 k8 u8 v8 F8 N8 e8 n8; (try k_sweep); (try dsimp only)))); k_steps))
  · ((try dsimp only); (try (first | k_unfold | dsimp only [qk])); (try dsimp only); unfold LeaveP; dsimp only; refine ret _ _ _ ?_ ?_; try dsimp only)
    · exact StaysF.same (Fr.keep (by k_asm))
    · exact .inl ⟨rfl, by assumption⟩
  · unfold RHold
    rename (_ : Str) → _ → _ => XX
    rename Fly _ _ _ _ _ _ _ _ => fl
    rename Heap.UpToSlots _ _ => sm
    refine caught_be fl F' B sm XB TB D ?_
    intro h1 g1 d vs sl tc t1 t2 tk1 T1 F1 N1 de B1 X1 TT1 D1
    have hv := hX _ _ (by assumption)
    clear F' N'
    (k_steps; repeat' ((first | (unfold CHold; (k_dflt (refine' Tell.use (‹Tell _ 70 156 _ _ _ _›) ?B ?F ?N ?XB ?TB ?hk ?hd ?hu ?hp ?_ ?_); (case B => k_asm); (case F => k_asm); (case N => k_asm); (case XB => k_asm); (case TB => k_asm); (case hk => exact rfl); (case hd => first | exact roomD (by assumption) (by decide) | ((try dsimp only [ctx] at *); omega)); (case hu => first | exact roomC (by assumption) (by decide) | exact roomU (by assumption) (by decide) | ((try dsimp only [ctx] at *); omega)); (case hp => first | trivial | assumption);  (rotate_left 1; intro e7 h7 k7 c7 v7 x7 fl7 sm7; refine holdR ?_; rotate_right 1); k_whole; intro v9 h9 tk9 st9 F9 N9 r9; (try dsimp only at r9); (first | subst r9 | (obtain ⟨t9, r9⟩ := r9; subst r9) | (obtain ⟨n9, t9, r9, e9⟩ := r9; subst r9) | skip); (try k_sweep); (try dsimp only))) | (unfold CHold; (k_dflt (refine' mkBE _ _ _ _ _ _ _ _ _ _ _ _ _ _ _ _ _ _ _ _ _ _ _ _ _ ?B ?F ?X ?N ?T ?hk ?hd ?hu ?_; (case B => k_asm); (case F => k_asm); (case X => k_asm); (case N => k_asm); (case T => k_asm); (case hk => exact rfl); (case hd => first | exact roomD (by assumption) (by decide) | ((try dsimp only [ctx] at *); omega)); (case hu => first | exact roomC (by assumption) (by decide) | exact roomU (by assumption) (by decide) | ((try dsimp only [ctx] at *); omega)); k_whole); intro x8 d8 t8 h8 k8 u8 v8 F8 N8 e8 n8; (try k_sweep); (try dsimp only)))); k_steps))
    ((try dsimp only); (try (first | k_unfold | dsimp only [qk])); (try dsimp only); unfold LeaveP; dsimp only; refine ret _ _ _ ?_ ?_; try dsimp only)
    · exact StaysF.of T1 (Fr.keep (by k_asm))
    · exact .inr ⟨_, _, _, _, by assumption, rfl, turn_back T1 (News.fresh (by k_asm) (.head _)), News.get (by k_asm) (.head _)⟩
end Mine
/-! T14 -/
namespace Mine
theorem start_T14 : True := by
  w_top off
  trivial
section
variable {prog : Program} {w : World} {A : Around} {E : Value → Shared → Prop} {s : Shared} {env : Env} {h₀ : Heap} {x : Str} {body : List Stmt} {Q : Flow → Shared → Prop}
/-- a loop over the signs of a text -/
theorem iter_textN {xt : Str} {tx : Tok} {m₀ : Str → Option Value} {news : List (Addr × Obj)} (J : Nat → (Str → Option Value) → List (Addr × Obj) → Prop)
    (hh : A.handled = none) (F : Fr h₀ env.locals s.heap m₀) (N : News h₀ env.locals s.heap news) (hj : J 0 m₀ news)
    (turn : ∀ i c t m₁ news₁ h tk own, xt.cps.toList[i]? = some c → OwnOff own (news.map (·.1)) → news₁.map (·.1) = news.map (·.1) → J i m₁ news₁ → Fr h₀ env.locals h (fun y => if y = x then some (.str ⟨#[c]⟩ t) else m₁ y) → News h₀ env.locals h (news₁ ++ own) →
      wpAny (model prog w) A (execs body env) (InvPostN h₀ env.locals (J (i + 1)) own (news.map (·.1)) { s with heap := h, toks := tk } Q) E { s with heap := h, toks := tk })
    (done : ∀ m₁ news₁ h tk, J xt.length m₁ news₁ → Fr h₀ env.locals h m₁ → News h₀ env.locals h news₁ → Q .next { s with heap := h, toks := tk }) :
    wpAny (model prog w) A (pyIter (.str xt tx)) (fun it s₂ => LoopAtV prog w A h₀ env x body Q E it s₂) E s := by
  refine wpAny_pyIter_str fun o St hW hst => ?_
  have W := hW A hh
  refine loop_invN J W ?_ ?_ ?_ ?_ hst (F.push _) (fun p hp => ⟨Heap.get?_push_of_some _ (N p hp).1, (N p hp).2⟩) hj ?_ ?_
  · intro hm
    exact absurd F.ns.lt ((List.mem_singleton.mp hm) ▸ Nat.lt_irrefl _)
  · intro b' hb
    rw [List.mem_singleton.mp hb]
    exact next_is_new F
  · intro p hp hI
    exact absurd (Heap.lt_size (N p hp).1) ((List.mem_singleton.mp hI) ▸ Nat.lt_irrefl _)
  · intro p hp hI
    exact absurd (Heap.lt_size (N p hp).1) ((List.mem_singleton.mp hI) ▸ Nat.lt_irrefl _)
  · rintro i v m₁ nx h tk own hi ⟨c, u, hc, rfl⟩ hadr hoff hj F₁ N₁
    exact turn i c u m₁ nx h tk own (by simpa using hc) hoff hadr hj F₁ N₁
  · intro m₁ nx h tk hj F₁ N₁
    exact done m₁ nx h tk hj F₁ N₁
end
/-- the number that figures tell -/
def val (l : List Nat) : Int := l.foldl (fun (a : Int) (c : Nat) => a * 10 + (c : Int) - 48) 0
theorem val_snoc (l : List Nat) (c : Nat) : val (l ++ [c]) = val l * 10 + (c : Int) - 48 := by unfold val; rw [List.foldl_append]; rfl
theorem val_bound (l : List Nat) (h : ∀ c ∈ l, 48 ≤ c ∧ c ≤ 57) (hl : l.length ≤ 8) : 0 ≤ val l ∧ val l < 10 ^ 8 := by
  have all : ∀ k, k ≤ l.length → 0 ≤ val (l.take k) ∧ val (l.take k) < 10 ^ k := by
    intro k
    induction k with
    | zero => intro _; exact ⟨Int.le_refl _, (show (0:Int) < 1 by decide)⟩
    | succ k ih =>
      intro hk
      obtain ⟨h1, h2⟩ := ih (by omega)
      have hlt : k < l.length := by omega
      have hc := h l[k] (List.getElem_mem hlt)
      have e : l.take (k + 1) = l.take k ++ [l[k]] := by rw [List.take_add_one]; simp [hlt]
      rw [e, val_snoc, Int.pow_succ]
      generalize (10 : Int) ^ k = p at *
      omega
  obtain ⟨h1, h2⟩ := all l.length (Nat.le_refl _)
  rw [List.take_length] at h1 h2
  refine ⟨h1, Int.lt_of_lt_of_le h2 ?_⟩
  generalize l.length = n at hl
  revert n; decide
def ForHold (P : Prop) : Prop := P
theorem holdF {P : Prop} (h : ForHold P) : P := h
local macro_rules | `(tactic| walk_at "pyIter str") => `(tactic| refine holdF ?_)

theorem plainNumber (w : World) (x : Str) (tx : Tok) (hr : x.length ≤ 8) (hf : ∀ c ∈ x.cps.toList, 48 ≤ c ∧ c ≤ 57) : Tell w 10 193 [.str x tx] (fun _ => True) (fun _ _ v => ∃ tk, v = .int (val x.cps.toList) tk) (fun _ _ => False) := by
  unfold Tell
  intro mean mg mb dp un gd l base g gs dr tk os Q E B XB TB hd' hu hP ret rai
  revert XB; k_fill; intro XB
  have cLi := cLine_is
  have reci : recursionLimit = 1000 := rfl
  refine wpAny_call ?_
  k_dflt (refine' enterP (l0 := [("figures", _)]) ?k1 ?k2 ?k3 ?k6 ?k7 ?k8 ?k9 ?kl ?kB ?_ ?c2 ?c3 ?c4 ?c5; (case k1 => exact B); (case k2 => exact XB); (case k3 => exact TB); (case k6 => k_is); (case k7 => k_is); (case k8 => exact roomZ hd'); (case k9 => exact BindsTo.of_eq rfl); (case kl => exact rfl); (case c5 => decide); (case kB => exact locs rfl); (case c2 => exact rfl); (case c3 => exact rfl); (case c4 => exact rfl); k_whole)
  intro L' h' tk0 F' N' X T
  dsimp only
  k_fold
  (k_with_none; (k_with "ne" => (first | exact ne_gt (by with_reducible assumption) | exact ne_lt (by with_reducible assumption) | with_reducible assumption | exact Ne.symm (by with_reducible assumption) | exact ne_gt (And.left (by with_reducible assumption)) | exact ne_gt (And.left (And.right (by with_reducible assumption))) | exact ne_gt (And.right (by with_reducible assumption)) | exact ne_gt (And.right (And.right (by with_reducible assumption))) | exact ne_lt (And.left (by with_reducible assumption)) | exact ne_lt (And.left (And.right (by with_reducible assumption))) | exact ne_lt (And.right (by with_reducible assumption)) | exact ne_lt (And.right (And.right (by with_reducible assumption))))); (k_with "exec For Name Name cons nil" => ((rename Fr _ _ _ _ => lF9); (with_unfolding_all refine' For_invVF lF9 ?k1Kw ?k2Kw ?_); (case k1Kw => exact rfl); (case k2Kw => exact rfl); k_whole)); k_steps)
  unfold ForHold
  rename Fr _ _ _ _ => F0
  rename News _ _ _ _ => N0
  have F1 := Fr_eq (Fr_eq F0 (loc_set "found" _ _)) (told_none (t := "sign") _ rfl)
  refine iter_textN (fun i m nx => nx = [] ∧ ∃ u tk, m = fun (y : Str) => if y = ("sign" : Str) then u else List.lookup y [(("figures" : Str), Value.str x tx), (("found" : Str), Value.int (val (x.cps.toList.take i)) tk)]) rfl F1 N0 ⟨rfl, none, _, rfl⟩ ?turn ?done
  case turn =>
    rintro i c t m₁ nx h tk own hc hoff _ ⟨rfl, u, tk', rfl⟩ F2 N2
    clear F0 N0 F1
    have F3 := Fr_eq F2 (told_told _ _ _)
    clear F2
    have hb := val_bound (x.cps.toList.take i) (fun d hd => hf d (List.mem_of_mem_take hd)) (by rw [List.length_take, row_len]; omega)
    have ev : val (x.cps.toList.take (i + 1)) = val (x.cps.toList.take i) * 10 + (c : Int) - 48 := by
      have hlt : i < x.cps.toList.length := (List.getElem?_eq_some_iff.mp hc).1
      have hx : x.cps.toList[i] = c := (List.getElem?_eq_some_iff.mp hc).2
      have e : x.cps.toList.take (i + 1) = x.cps.toList.take i ++ [c] := by rw [List.take_add_one, hc]; rfl
      rw [e, val_snoc]
    k_steps
    refine' InvEndN.intro (Fr_eq (by k_asm) (told_at (a := "found") (t := "sign") (by decide) _ _ _)) (by k_asm) ⟨rfl, some _, _, ?eq⟩ rfl (fun p hp => by cases hp) (fun p hp => by simpa using hp)
    case eq => rw [ev]; rfl
  case done =>
    rintro m₁ nx h tk ⟨rfl, u, tk', rfl⟩ F2 N2
    clear F0 N0 F1
    k_steps
    ((try dsimp only); (try (first | k_unfold | dsimp only [qk])); (try dsimp only); unfold LeaveP; dsimp only; refine ret _ _ _ (Fr.keep (by k_asm)) ?_; try dsimp only)
    refine ⟨tk', ?_⟩
    rw [← row_len, List.take_length]
end Mine
/-! T15 -/
namespace Mine
theorem start_T15 : True := by
  w_top off
  trivial
/-- what split_number gives back: a tuple of two -/
def TwoRet (a b : Value → Prop) (g h' : Heap) (v : Value) : Prop := ∃ ad x y, v = .ref ad ∧ g.get? ad = none ∧ h'.get? ad = some { cls := .type "tuple", data := .seq #[x, y] } ∧ a x ∧ b y
theorem take_while (p : Nat → Bool) : ∀ l : List Nat, l.take (l.takeWhile p).length = l.takeWhile p
  | [] => rfl
  | c :: r => by
    rw [List.takeWhile_cons]
    cases p c with
    | true => simp only [if_true, List.length_cons, List.take_succ_cons]; rw [take_while p r]
    | false => rfl
theorem all_while (p : Nat → Bool) : ∀ l : List Nat, ∀ c ∈ l.takeWhile p, p c = true
  | [], _, h => by cases h
  | d :: r, c, h => by
    rw [List.takeWhile_cons] at h
    cases q : p d with
    | true => rw [q] at h; simp only [if_true, List.mem_cons] at h; exact h.elim (fun e => e ▸ q) (all_while p r c)
    | false => rw [q] at h; cases h
theorem fig_slice (row : Str) (b : Nat) : Txt.slice row (some (b : Int)) (some ((runE isFig row.cps.toList ((b : Int)).toNat : Nat) : Int)) = ⟨((row.cps.toList.drop b).takeWhile isFig).toArray⟩ := by
  rw [Int.toNat_natCast, slice_nat _ _ _ (by unfold runE; omega)]
  unfold runE runL
  rw [Nat.add_sub_cancel_left, take_while]
theorem fig_len {row : Str} {b : Nat} (h : ¬ (5 : Int) < ((runE isFig row.cps.toList ((b : Int)).toNat : Nat) : Int) - (b : Int)) : (Txt.slice row (some (b : Int)) (some ((runE isFig row.cps.toList ((b : Int)).toNat : Nat) : Int))).length ≤ 8 := by
  rw [fig_slice]
  unfold runE runL at h
  rw [Int.toNat_natCast] at h
  show ((row.cps.toList.drop b).takeWhile isFig).toArray.size ≤ 8
  simp only [List.size_toArray]
  omega
theorem fig_all {row : Str} {b : Nat} : ∀ c ∈ (Txt.slice row (some (b : Int)) (some ((runE isFig row.cps.toList ((b : Int)).toNat : Nat) : Int))).cps.toList, 48 ≤ c ∧ c ≤ 57 := by
  rw [fig_slice]
  intro c hc
  have := all_while isFig _ c hc
  unfold isFig at this
  exact of_decide_eq_true this
/-- the figures at the head of a row -/
def headFigs (l : List Nat) : List Nat := (l.drop (runE isBlk l 0)).takeWhile isFig




theorem splitNumber (w : World) (row : Str) (tr : Tok) (hr : row.length ≤ 1000) : Tell w 40 200 [.str row tr] (fun _ => True)
    (fun g h' v => (headFigs row.cps.toList = [] ∧ TwoRet (· = .none) (fun y => ∃ t, y = .str ⟨(row.cps.toList.drop (runE isBlk row.cps.toList 0)).toArray⟩ t) g h' v) ∨
      (headFigs row.cps.toList ≠ [] ∧ (headFigs row.cps.toList).length ≤ 5 ∧ val (headFigs row.cps.toList) ≤ 65529 ∧ TwoRet (fun y => ∃ t, y = .int (val (headFigs row.cps.toList)) t) (fun y => ∃ t, y = .str ⟨(row.cps.toList.drop (runE isBlk row.cps.toList (runE isBlk row.cps.toList 0 + (headFigs row.cps.toList).length))).toArray⟩ t) g h' v))
    (fun c v => c = "SN" ∧ (∃ tk, v = .int ((runE isBlk row.cps.toList 0 : Nat) : Int) tk) ∧ headFigs row.cps.toList ≠ [] ∧ (5 < (headFigs row.cps.toList).length ∨ 65529 < val (headFigs row.cps.toList))) := by
  have e0 : runE isBlk row.cps.toList (Int.toNat 0) = runE isBlk row.cps.toList 0 := rfl
  have ef : runE isFig row.cps.toList ((runE isBlk row.cps.toList 0 : Nat) : Int).toNat = runE isBlk row.cps.toList 0 + (headFigs row.cps.toList).length := by unfold headFigs; rfl
  have es := fig_slice row (runE isBlk row.cps.toList 0)
  have eh : (row.cps.toList.drop (runE isBlk row.cps.toList 0)).takeWhile isFig = headFigs row.cps.toList := rfl
  rw [ef, eh] at es
  have en : headFigs row.cps.toList = [] ↔ (headFigs row.cps.toList).length = 0 := List.length_eq_zero_iff.symm
  unfold Tell
  intro mean mg mb dp un gd l base g gs dr tk os Q E B XB TB hd' hu hP ret rai
  revert XB; k_fill; intro XB
  have cLi := cLine_is
  have reci : recursionLimit = 1000 := rfl
  refine wpAny_call ?_
  k_dflt (refine' enterP (l0 := [("row", _)]) ?k1 ?k2 ?k3 ?k6 ?k7 ?k8 ?k9 ?kl ?kB ?_ ?c2 ?c3 ?c4 ?c5; (case k1 => exact B); (case k2 => exact XB); (case k3 => exact TB); (case k6 => k_is); (case k7 => k_is); (case k8 => exact roomZ hd'); (case k9 => exact BindsTo.of_eq rfl); (case kl => exact rfl); (case c5 => decide); (case kB => exact locs rfl); (case c2 => exact rfl); (case c3 => exact rfl); (case c4 => exact rfl); k_whole)
  intro L' h' tk0 F' N' X T
  dsimp only
  k_fold
  (k_with_none; (k_with "ne" => (first | exact ne_gt (by with_reducible assumption) | exact ne_lt (by with_reducible assumption) | with_reducible assumption | exact Ne.symm (by with_reducible assumption) | exact ne_gt (And.left (by with_reducible assumption)) | exact ne_gt (And.left (And.right (by with_reducible assumption))) | exact ne_gt (And.right (by with_reducible assumption)) | exact ne_gt (And.right (And.right (by with_reducible assumption))) | exact ne_lt (And.left (by with_reducible assumption)) | exact ne_lt (And.left (And.right (by with_reducible assumption))) | exact ne_lt (And.right (by with_reducible assumption)) | exact ne_lt (And.right (And.right (by with_reducible assumption))))); (k_with "call ref" => refine hold34 ?_); (k_with "exec Raise some none" => refine Raise_be rfl ?_); (k_with "call ref" => refine hold86 ?_); (k_with "call ref" => refine hold79 ?_); (k_with "call ref" => refine hold193 ?_); k_steps; repeat' ((first | (k_dflt (refine' Tell.useT (plainNumber _ _ _ ?q1 ?q2) ?B ?F ?N ?XB ?TB ?hk ?hd ?hu ?hp ?_); (case B => k_asm); (case F => k_asm); (case N => k_asm); (case XB => k_asm); (case TB => k_asm); (case hk => exact rfl); (case hd => first | exact roomD (by assumption) (by decide) | ((try dsimp only [ctx] at *); omega)); (case hu => first | exact roomC (by assumption) (by decide) | exact roomU (by assumption) (by decide) | ((try dsimp only [ctx] at *); omega)); (case hp => first | trivial | assumption); (case q1 => exact fig_len (by assumption)); (case q2 => exact fig_all); k_whole; intro h9 tk9 t9 F9 N9; (try k_sweep); (try dsimp only)) | (k_dflt (refine' Tell.useT (figuresEnd _ _ _ _ _ ?q1 ?q2) ?B ?F ?N ?XB ?TB ?hk ?hd ?hu ?hp ?_); (case B => k_asm); (case F => k_asm); (case N => k_asm); (case XB => k_asm); (case TB => k_asm); (case hk => exact rfl); (case hd => first | exact roomD (by assumption) (by decide) | ((try dsimp only [ctx] at *); omega)); (case hu => first | exact roomC (by assumption) (by decide) | exact roomU (by assumption) (by decide) | ((try dsimp only [ctx] at *); omega)); (case hp => first | trivial | assumption); (case q1 => assumption); (case q2 => omega); k_whole; intro h9 tk9 t9 F9 N9; (try k_sweep); (try dsimp only)) | (k_dflt (refine' Tell.useT (skippedE _ _ _ _ _ ?q1 ?q2) ?B ?F ?N ?XB ?TB ?hk ?hd ?hu ?hp ?_); (case B => k_asm); (case F => k_asm); (case N => k_asm); (case XB => k_asm); (case TB => k_asm); (case hk => exact rfl); (case hd => first | exact roomD (by assumption) (by decide) | ((try dsimp only [ctx] at *); omega)); (case hu => first | exact roomC (by assumption) (by decide) | exact roomU (by assumption) (by decide) | ((try dsimp only [ctx] at *); omega)); (case hp => first | trivial | assumption); (case q1 => assumption); (case q2 => omega); k_whole; intro h9 tk9 t9 F9 N9; (try k_sweep); (try dsimp only)) | (unfold CHold; (k_dflt (refine' mkBE _ _ _ _ _ _ _ _ _ _ _ _ _ _ _ _ _ _ _ _ _ _ _ _ _ ?B ?F ?X ?N ?T ?hk ?hd ?hu ?_; (case B => k_asm); (case F => k_asm); (case X => k_asm); (case N => k_asm); (case T => k_asm); (case hk => exact rfl); (case hd => first | exact roomD (by assumption) (by decide) | ((try dsimp only [ctx] at *); omega)); (case hu => first | exact roomC (by assumption) (by decide) | exact roomU (by assumption) (by decide) | ((try dsimp only [ctx] at *); omega)); k_whole); intro x8 d8 t8 h8 k8 u8 v8 F8 N8 e8 n8; (try k_sweep); (try dsimp only)))); k_steps))
  all_goals (simp only [e0, ef, es] at *)
  · ((try dsimp only); (try (first | k_unfold | dsimp only [qk])); (try dsimp only); unfold LeaveP; dsimp only; refine ret _ _ _ (Fr.keep (by k_asm)) ?_; try dsimp only)
    exact .inl ⟨en.mpr (by omega), _, _, _, rfl, News.fresh (by k_asm) (.head _), News.get (by k_asm) (.head _), rfl, _, by rw [slice_fromN]⟩
  · (refine ⟨_, _, _, rfl, X.keeps (Fr.keep (by k_asm)), News.get (by k_asm) (.tail _ (.head _)), ?_⟩; (try k_unfold); (try dsimp only); refine leave_made B (by k_asm) (by k_asm) (by assumption) fun hh1 fl1 sm1 => ?_; refine rai _ _ _ _ _ ?_ fl1 sm1)
    exact ⟨rfl, ⟨_, rfl⟩, fun q => by rw [en] at q; omega, .inl (by omega)⟩
  · (refine ⟨_, _, _, rfl, X.keeps (Fr.keep (by k_asm)), News.get (by k_asm) (.tail _ (.head _)), ?_⟩; (try k_unfold); (try dsimp only); refine leave_made B (by k_asm) (by k_asm) (by assumption) fun hh1 fl1 sm1 => ?_; refine rai _ _ _ _ _ ?_ fl1 sm1)
    exact ⟨rfl, ⟨_, rfl⟩, fun q => by rw [en] at q; omega, .inr (by assumption)⟩
  · ((try dsimp only); (try (first | k_unfold | dsimp only [qk])); (try dsimp only); unfold LeaveP; dsimp only; refine ret _ _ _ (Fr.keep (by k_asm)) ?_; try dsimp only)
    exact .inr ⟨fun q => by rw [en] at q; omega, by omega, by omega, _, _, _, rfl, News.fresh (by k_asm) (.head _), News.get (by k_asm) (.head _), ⟨_, rfl⟩, _, by rw [slice_fromN]; rfl⟩
end Mine
/-! T16 -/
namespace Mine
theorem start_T16 : True := by
  w_top off
  trivial



theorem refLine (w : World) (x : Value) (X : Str → Value → Prop) (tw : Tok) (hX : ∀ c v, X c v → handedIn v = true) (H : Tell w 40 200 [x] (fun _ => True) (fun _ _ _ => False) X) :
    TellT w 80 277 [.str "line" tw, x] (fun _ => True) (RefRet False X) := by
  unfold TellT
  intro mean mg mb dp un gd l base g gs dr tk os Q E B XB TB D hd' hu hP ret
  revert XB; k_fill; intro XB
  have cLi := cLine_is
  have reci : recursionLimit = 1000 := rfl
  refine wpAny_call ?_
  k_dflt (refine' enterP (l0 := [("given", _), ("way", _)]) ?k1 ?k2 ?k3 ?k6 ?k7 ?k8 ?k9 ?kl ?kB ?_ ?c2 ?c3 ?c4 ?c5; (case k1 => exact B); (case k2 => exact XB); (case k3 => exact TB); (case k6 => k_is); (case k7 => k_is); (case k8 => exact roomZ hd'); (case k9 => exact BindsTo.of_eq rfl); (case kl => exact rfl); (case c5 => decide); (case kB => exact locs rfl); (case c2 => exact rfl); (case c3 => exact rfl); (case c4 => exact rfl); k_whole)
  intro L' h' tk0 F' N' X T
  dsimp only
  k_fold
  (k_with_none; (k_with "ne" => (first | exact ne_gt (by with_reducible assumption) | exact ne_lt (by with_reducible assumption) | with_reducible assumption | exact Ne.symm (by with_reducible assumption) | exact ne_gt (And.left (by with_reducible assumption)) | exact ne_gt (And.left (And.right (by with_reducible assumption))) | exact ne_gt (And.right (by with_reducible assumption)) | exact ne_gt (And.right (And.right (by with_reducible assumption))) | exact ne_lt (And.left (by with_reducible assumption)) | exact ne_lt (And.left (And.right (by with_reducible assumption))) | exact ne_lt (And.right (by with_reducible assumption)) | exact ne_lt (And.right (And.right (by with_reducible assumption))))); (k_with "call ref" => refine hold200 ?_); (k_with "getAttr ref" => ((with_reducible refine' be_code rfl ?XKw ?xKw ?dKw ?_); (case XKw => exact Frag.In.keeps (by k_asm) (Fr.keep (by k_asm))); (case xKw => exact News.get (by k_asm) (.head _)); (case dKw => exact News.get (by k_asm) (.tail _ (.head _))))); (k_with "getAttr ref" => ((with_reducible refine' be_told rfl ?XKw ?xKw ?dKw ?vKw ?_); (case XKw => exact Frag.In.keeps (by k_asm) (Fr.keep (by k_asm))); (case xKw => exact News.get (by k_asm) (.head _)); (case dKw => exact News.get (by k_asm) (.tail _ (.head _))); (case vKw => assumption))); k_steps; repeat' ((first | (unfold CHold; (k_dflt (refine' Tell.use (‹Tell _ 40 200 _ _ _ _›) ?B ?F ?N ?XB ?TB ?hk ?hd ?hu ?hp ?_ ?_); (case B => k_asm); (case F => k_asm); (case N => k_asm); (case XB => k_asm); (case TB => k_asm); (case hk => exact rfl); (case hd => first | exact roomD (by assumption) (by decide) | ((try dsimp only [ctx] at *); omega)); (case hu => first | exact roomC (by assumption) (by decide) | exact roomU (by assumption) (by decide) | ((try dsimp only [ctx] at *); omega)); (case hp => first | trivial | assumption);  (rotate_left 1; intro e7 h7 k7 c7 v7 x7 fl7 sm7; refine holdR ?_; rotate_right 1); k_whole; intro v9 h9 tk9 st9 F9 N9 r9; (try dsimp only at r9); (first | subst r9 | (obtain ⟨t9, r9⟩ := r9; subst r9) | (obtain ⟨n9, t9, r9, e9⟩ := r9; subst r9) | skip); (try k_sweep); (try dsimp only)))); k_steps))
  unfold RHold
  rename (_ : Str) → _ → _ => XX
  rename Fly _ _ _ _ _ _ _ _ => fl
  rename Heap.UpToSlots _ _ => sm
  refine caught_be fl F' B sm XB TB D ?_
  intro h1 g1 d vs sl tc t1 t2 tk1 T1 F1 N1 de B1 X1 TT1 D1
  have hv := hX _ _ (by assumption)
  clear F' N'
  (k_steps; repeat' ((first | (unfold CHold; (k_dflt (refine' Tell.use (‹Tell _ 40 200 _ _ _ _›) ?B ?F ?N ?XB ?TB ?hk ?hd ?hu ?hp ?_ ?_); (case B => k_asm); (case F => k_asm); (case N => k_asm); (case XB => k_asm); (case TB => k_asm); (case hk => exact rfl); (case hd => first | exact roomD (by assumption) (by decide) | ((try dsimp only [ctx] at *); omega)); (case hu => first | exact roomC (by assumption) (by decide) | exact roomU (by assumption) (by decide) | ((try dsimp only [ctx] at *); omega)); (case hp => first | trivial | assumption);  (rotate_left 1; intro e7 h7 k7 c7 v7 x7 fl7 sm7; refine holdR ?_; rotate_right 1); k_whole; intro v9 h9 tk9 st9 F9 N9 r9; (try dsimp only at r9); (first | subst r9 | (obtain ⟨t9, r9⟩ := r9; subst r9) | (obtain ⟨n9, t9, r9, e9⟩ := r9; subst r9) | skip); (try k_sweep); (try dsimp only)))); k_steps))
  ((try dsimp only); (try (first | k_unfold | dsimp only [qk])); (try dsimp only); unfold LeaveP; dsimp only; refine ret _ _ _ ?_ ?_; try dsimp only)
  · exact StaysF.of T1 (Fr.keep (by k_asm))
  · exact .inr ⟨_, _, _, _, by assumption, rfl, turn_back T1 (News.fresh (by k_asm) (.head _)), News.get (by k_asm) (.head _)⟩
end Mine
/-! T17 -/
namespace Mine
theorem start_T17 : True := by
  w_top off
  trivial
section
variable {prog : Program} {w : World} {A : Around} {E : Value → Shared → Prop} {s : Shared} {env : Env} {h₀ : Heap} {target : Expr} {body : List Stmt} {Q : Flow → Shared → Prop}
/-- enumerate over a list that stood ahead of the call -/
theorem enumOld {elts : List Expr} {k : Nat} {pos : Pos} {l : Addr} {lo : Obj} {vs : List Value} {n : Nat} {m₀ : Str → Option Value} {news : List (Addr × Obj)}
    (hh : A.handled = none) (F : Fr h₀ env.locals s.heap m₀) (N : News h₀ env.locals s.heap news) (hg : h₀.get? l = some lo) (hc : lo.cls = .type "list") (hd : lo.data = .seq vs.toArray n)
    (rest₀ : ∀ I : Addr, (∀ p ∈ news, p.1 < I) → ItemsRest prog w A E h₀ env (.Tuple elts k pos) body Q s [(I + 1, "enumerate"), (I, "list_iterator")] [] (enumItems 0 vs) m₀ news) :
    wpAny (model prog w) A (call (.type "enumerate") [.ref l]) (fun xv s₁ => wpAny (model prog w) A (pyIter xv) (fun it s₂ => TurnsAt prog w A h₀ env (.Tuple elts k pos) body Q E it s₂) E s₁) E s := by
  have hax := F.keep _ _ hg
  have hl : s.heap.IsList l vs.toArray := ⟨lo, hax, hc, n, hd⟩
  have hlt : l < s.heap.objs.size := Heap.lt_size hax
  have hLs : env.locals < s.heap.objs.size := F.ns.lt
  refine call_enumerate_list hl fun h' hE hI hsz hk => ?_
  refine wpAny_pyIter_enum hE ?_
  refine ktg_core (tk0 := s.toks) (keep := []) (KTurns.ofWalksU (WalksT.enumerate hh (s.heap.objs.size + 1) s.heap.objs.size l (Nat.succ_ne_self _) (ktu_ne 1 hlt) (Nat.ne_of_lt hlt) vs.toArray).toU) (by simp [enumItems_length]) ?_ ?_ ?_ ?_ ?_ ?_ ?_ ?_ (F.keeps hk) (N.grown hk) trivial (rest₀ _ fun p hp => Heap.lt_size (N p hp).1)
  · rintro i v h ⟨T, vals, rfl, ⟨t, x, hx, rfl⟩, hT⟩
    refine ⟨_, enumItems_get vs 0 i (v := x) (by simpa using hx), T, t, rfl, ?_⟩
    show IsTup h T #[.int ((0 + i : Nat) : Int) t, x]
    rw [Nat.zero_add]
    exact hT
  · rintro i h ⟨⟨old, he⟩, ⟨oi, hoi, hic, _⟩, _⟩
    have he' : ∃ oe : Obj, h.get? (s.heap.objs.size + 1) = some oe ∧ oe.cls = .type "enumerate" := ⟨_, he, rfl⟩
    obtain ⟨oe, h1, h2⟩ := he'
    refine ⟨[(s.heap.objs.size + 1, oe), (s.heap.objs.size, oi)], ⟨⟨rfl, h2⟩, ⟨rfl, hic⟩, trivial⟩, fun p hp => ?_⟩
    rcases List.mem_cons.mp hp with rfl | hp
    · exact h1
    · rw [List.mem_singleton.mp hp]; exact hoi
  · intro b hb
    have hb' : b = s.heap.objs.size + 1 ∨ b = s.heap.objs.size := by simpa using hb
    rcases hb' with rfl | rfl
    · exact ⟨by simp, ktu_new F (Nat.le_add_right _ _)⟩
    · exact ⟨by simp, ktu_new F (Nat.le_refl _)⟩
  · intro b hb
    simpa using hb
  · intro b hb
    have hb' : b = s.heap.objs.size + 1 ∨ b = s.heap.objs.size ∨ b = l := by simpa using hb
    rcases hb' with rfl | rfl | rfl
    · exact .inl (by simp)
    · exact .inl (by simp)
    · exact .inr (.inr ⟨lo, hg⟩)
  · intro hI'
    have hb' : env.locals = s.heap.objs.size + 1 ∨ env.locals = s.heap.objs.size ∨ env.locals = l := by simpa using hI'
    rcases hb' with e | e | e
    · exact ktu_ne 1 hLs e
    · exact Nat.ne_of_lt hLs e
    · exact absurd (Heap.lt_size hg) (Nat.not_lt.mpr (e ▸ F.above))
  · intro p hp hI'
    have hb' : p.1 = s.heap.objs.size + 1 ∨ p.1 = s.heap.objs.size := by simpa using hI'
    have hlp := Heap.lt_size (N p hp).1
    rcases hb' with e | e
    · exact ktu_ne 1 hlp e
    · exact Nat.ne_of_lt hlp e
  · exact ⟨⟨.none, hE⟩, hI, hl.at fun o e => hk l o e⟩
end
/-- the token of a PRINT -/
def Prn (g : Heap) (a : Addr) : Prop := ∃ t1 t2, g.get? a = some { cls := .type "tuple", data := .seq #[.str "word" t1, .str "PRINT" t2] }
theorem tup_old {g h : Heap} {L a : Addr} {m : Str → Option Value} {vs : Array Value} (F : Fr g L h m) (e : g.get? a = some { cls := .type "tuple", data := .seq vs }) : IsTup h a vs := ⟨_, F.keep _ _ e, rfl, _, rfl⟩
theorem prn_keep {g h : Heap} {L a : Addr} {m : Str → Option Value} (F : Fr g L h m) (p : Prn g a) : Prn h a := let ⟨t1, t2, e⟩ := p; ⟨t1, t2, F.keep _ _ e⟩
theorem prn_keep2 {g h : Heap} {L a b : Addr} {m : Str → Option Value} (F : Fr g L h m) (p : Prn g a) (q : Prn g b) : Prn h a ∧ Prn h b := ⟨prn_keep F p, prn_keep F q⟩


theorem tokenText (w : World) (a : Addr) : Tell w 10 163 [.ref a] (fun g => Prn g a) (fun _ _ v => ∃ tk, v = .str "PRINT" tk) (fun _ _ => False) := by
  unfold Tell
  intro mean mg mb dp un gd l base g gs dr tk os Q E B XB TB hd' hu hP ret rai
  revert XB; k_fill; intro XB
  have cLi := cLine_is
  have reci : recursionLimit = 1000 := rfl
  refine wpAny_call ?_
  k_dflt (refine' enterP (l0 := [("token", _)]) ?k1 ?k2 ?k3 ?k6 ?k7 ?k8 ?k9 ?kl ?kB ?_ ?c2 ?c3 ?c4 ?c5; (case k1 => exact B); (case k2 => exact XB); (case k3 => exact TB); (case k6 => k_is); (case k7 => k_is); (case k8 => exact roomZ hd'); (case k9 => exact BindsTo.of_eq rfl); (case kl => exact rfl); (case c5 => decide); (case kB => exact locs rfl); (case c2 => exact rfl); (case c3 => exact rfl); (case c4 => exact rfl); k_whole)
  intro L' h' tk0 F' N' X T
  dsimp only
  k_fold
  obtain ⟨t1, t2, hp⟩ := hP
  (k_with_none; (k_with "ne" => (first | exact ne_gt (by with_reducible assumption) | exact ne_lt (by with_reducible assumption) | with_reducible assumption | exact Ne.symm (by with_reducible assumption) | exact ne_gt (And.left (by with_reducible assumption)) | exact ne_gt (And.left (And.right (by with_reducible assumption))) | exact ne_gt (And.right (by with_reducible assumption)) | exact ne_gt (And.right (And.right (by with_reducible assumption))) | exact ne_lt (And.left (by with_reducible assumption)) | exact ne_lt (And.left (And.right (by with_reducible assumption))) | exact ne_lt (And.right (by with_reducible assumption)) | exact ne_lt (And.right (And.right (by with_reducible assumption))))); (k_with "assign Tuple" => ((k_dflt (refine' unpackN_ ?FKw ?NKw ?tKw ?k1Kw ?k2Kw ?k3Kw ?_; (case FKw => k_asm); (case NKw => k_asm); (case tKw => exact tup_old (by k_asm) (by assumption)); (case k1Kw => exact rfl); (case k2Kw => exact rfl); (case k3Kw => exact rfl)); intro h' F' N'; (try k_sweep)))); (k_with "subscriptTail" => (k_dflt (refine' item_tupleT ?tKw ?aKw ?bKw ?cKw ?dKw ?_; (case tKw => exact tup_old (by k_asm) (by assumption)); (case aKw => decide); (case bKw => decide); (case cKw => exact rfl); (case dKw => exact rfl); k_whole))); k_steps)
  ((try dsimp only); (try (first | k_unfold | dsimp only [qk])); (try dsimp only); unfold LeaveP; dsimp only; refine ret _ _ _ (Fr.keep (by k_asm)) ?_; try dsimp only)
  exact ⟨_, rfl⟩
theorem wl_tup {w : World} {h : Heap} (X : (_root_.MineH.hd.heap_1 w.params).In h) : ∃ vs : Array Value, IsTup h 39 vs ∧ StrsAre vs.toList ["word", "name", "number"] := by
  revert X; k_fill; intro X
  exact ⟨_, ⟨_, X _ _ (by k_is), rfl, _, rfl⟩, by kde_strs⟩
theorem in_wl {w : World} {g h : Heap} {L : Addr} {m : Str → Option Value} {prog : Program} {A : Around} {E : Value → Shared → Prop} {Q : Value → Shared → Prop} {x : Str} {u : Tok} {gs : Array GenState} {dr : Drawn} {tk : Nat} {os : OsState}
    (X : (_root_.MineH.hd.heap_1 w.params).In g) (F : Fr g L h m) (hx : ([("word" : Str), "name", "number"].any (· == x)) = true) (q : Q (.bool true) ⟨h, gs, dr, tk, os⟩) : wpAny (model prog w) A (compareOp .In (.str x u) (.ref 39)) Q E ⟨h, gs, dr, tk, os⟩ := by
  obtain ⟨vs, T, S⟩ := wl_tup (X.keeps F.keep)
  exact in_tuple_strs T S (by rw [hx]; exact q)

theorem needsBlank (w : World) (a b : Addr) : Tell w 10 170 [.ref a, .ref b] (fun g => Prn g a ∧ Prn g b) (fun _ _ v => v = .bool true) (fun _ _ => False) := by
  unfold Tell
  intro mean mg mb dp un gd l base g gs dr tk os Q E B XB TB hd' hu hP ret rai
  revert XB; k_fill; intro XB
  have cLi := cLine_is
  have reci : recursionLimit = 1000 := rfl
  refine wpAny_call ?_
  k_dflt (refine' enterP (l0 := [("other", _), ("one", _)]) ?k1 ?k2 ?k3 ?k6 ?k7 ?k8 ?k9 ?kl ?kB ?_ ?c2 ?c3 ?c4 ?c5; (case k1 => exact B); (case k2 => exact XB); (case k3 => exact TB); (case k6 => k_is); (case k7 => k_is); (case k8 => exact roomZ hd'); (case k9 => exact BindsTo.of_eq rfl); (case kl => exact rfl); (case c5 => decide); (case kB => exact locs rfl); (case c2 => exact rfl); (case c3 => exact rfl); (case c4 => exact rfl); k_whole)
  intro L' h' tk0 F' N' X T
  dsimp only
  k_fold
  obtain ⟨⟨t1, t2, hp⟩, ⟨t3, t4, hq⟩⟩ := hP
  (k_with_none; (k_with "ne" => (first | exact ne_gt (by with_reducible assumption) | exact ne_lt (by with_reducible assumption) | with_reducible assumption | exact Ne.symm (by with_reducible assumption) | exact ne_gt (And.left (by with_reducible assumption)) | exact ne_gt (And.left (And.right (by with_reducible assumption))) | exact ne_gt (And.right (by with_reducible assumption)) | exact ne_gt (And.right (And.right (by with_reducible assumption))) | exact ne_lt (And.left (by with_reducible assumption)) | exact ne_lt (And.left (And.right (by with_reducible assumption))) | exact ne_lt (And.right (by with_reducible assumption)) | exact ne_lt (And.right (And.right (by with_reducible assumption))))); (k_with "assign Tuple" => ((k_dflt (refine' unpackN_ ?FKw ?NKw ?tKw ?k1Kw ?k2Kw ?k3Kw ?_; (case FKw => k_asm); (case NKw => k_asm); (case tKw => exact tup_old (by k_asm) (by assumption)); (case k1Kw => exact rfl); (case k2Kw => exact rfl); (case k3Kw => exact rfl)); intro h' F' N'; (try k_sweep)))); (k_with "subscriptTail" => (k_dflt (refine' item_tupleT ?tKw ?aKw ?bKw ?cKw ?dKw ?_; (case tKw => exact tup_old (by k_asm) (by assumption)); (case aKw => decide); (case bKw => decide); (case cKw => exact rfl); (case dKw => exact rfl); k_whole))); (k_with "compareOp In" => (k_dflt (refine' in_wl ?XKw ?FKw ?xKw ?_; (case XKw => k_asm); (case FKw => k_asm); (case xKw => decide +kernel); k_whole))); k_steps)
  ((try dsimp only); (try (first | k_unfold | dsimp only [qk])); (try dsimp only); unfold LeaveP; dsimp only; refine ret _ _ _ (Fr.keep (by k_asm)) ?_; try dsimp only)
end Mine
/-! T18 -/
namespace Mine
theorem start_T18 : True := by
  w_top off
  trivial
def EHold (P : Prop) : Prop := P
theorem holdE {P : Prop} (h : EHold P) : P := h
def UHold (P : Prop) : Prop := P
theorem holdU {P : Prop} (h : UHold P) : P := h





/-- a list of PRINT tokens -/
def Prns (g : Heap) (l : Addr) (N : Nat) : Prop := ∃ (vs : List Value) (n : Nat), g.get? l = some { cls := .type "list", data := .seq vs.toArray n } ∧ vs.length = N ∧ ∀ v ∈ vs, ∃ a, v = .ref a ∧ Prn g a
def three (u1 u2 u3 : Option Value) (l : List (Str × Value)) : Str → Option Value := fun y => if y = ("at" : Str) then u1 else if y = ("token" : Str) then u2 else if y = ("told" : Str) then u3 else List.lookup y l
section
variable {prog : Program} {w : World} {A : Around} {E : Value → Shared → Prop} {s : Shared} {env : Env} {h₀ : Heap} {target : Expr} {body : List Stmt} {Q : Flow → Shared → Prop}
theorem itemsInd {I : Addr} (J : Nat → (Str → Option Value) → Prop) (vs : List Value)
    (done : ∀ m, J vs.length m → ∀ h tk, Fr h₀ env.locals h m → News h₀ env.locals h [] → Q .next { s with heap := h, toks := tk })
    (turn : ∀ i v m, vs[i]? = some v → J i m → ∀ T t h tk, IsTup h T #[.int (i : Int) t, v] → Fr h₀ env.locals h m → ∀ o1 : Obj, o1.cls = .type "enumerate" → ∀ o2 : Obj, o2.cls = .type "list_iterator" → News h₀ env.locals h [(I + 1, o1), (I, o2)] →
      wpAny (model prog w) A (assign target env (.ref T)) (fun _ s₂ => wpAny (model prog w) A (execs body env) (UnrPostW h₀ env.locals { s with heap := h, toks := tk } [(I + 1, o1), (I, o2)] (fun m' n' => n' = [] ∧ J (i + 1) m') Q) E s₂) E { s with heap := h, toks := tk }) :
    ∀ (r : List Value) (i : Nat) (m : Str → Option Value), i ≤ vs.length → vs.drop i = r → J i m → ItemsRest prog w A E h₀ env target body Q s [(I + 1, "enumerate"), (I, "list_iterator")] [] (enumItems i r) m [] := by
  intro r
  induction r with
  | nil =>
    intro i m hi hd hJ
    refine ItemsRest.zero fun h tk F N => ?_
    have hn : vs.length ≤ i := List.drop_eq_nil_iff.mp hd
    obtain rfl : i = vs.length := by omega
    exact done m hJ h tk F N
  | cons v r ih =>
    intro i m hi hd hJ
    have hv : vs[i]? = some v := by
      have := List.getElem?_drop (xs := vs) (i := i) (j := 0)
      rw [hd] at this
      simpa using this.symm
    have hlt : i < vs.length := (List.getElem?_eq_some_iff.mp hv).1
    have hr : vs.drop (i + 1) = r := by rw [← List.drop_drop, hd]; rfl
    refine ItemsRest.pair (f := fun t => .int (i : Int) t) fun T t h tk hT F => ?_
    refine AllObj.cons fun o1 c1 => AllObj.cons fun o2 c2 => AllObj.nil fun N => ?_
    refine wpAny_mono (turn i v m hv hJ T t h tk hT F o1 c1 o2 c2 N) (fun _ s₂ p => wpAny_mono p (fun f s₃ q => ?_) fun _ _ e => e) fun _ _ e => e
    cases f with
    | ret v => exact q
    | brk => exact q
    | next =>
      obtain ⟨h', tk', m', n', e, F', N', o, rfl, hJ'⟩ := q
      exact ⟨h', tk', m', [], e, F', N', o, trivial, ih (i + 1) m' hlt hr hJ'⟩
    | cont =>
      obtain ⟨h', tk', m', n', e, F', N', o, rfl, hJ'⟩ := q
      exact ⟨h', tk', m', [], e, F', N', o, trivial, ih (i + 1) m' hlt hr hJ'⟩
end
theorem item_prn {prog : Program} {w : World} {A : Around} {E : Value → Shared → Prop} {g : Heap} {L fa : Addr} {m : Str → Option Value} {value slice : PySem.Expr} {vs : List Value} {n : Nat} {k : Int} {u : Tok} {Q : Value → Shared → Prop} {s : Shared}
    (F : Fr g L s.heap m) (hg : g.get? fa = some { cls := .type "list", data := .seq vs.toArray n }) (hvs : ∀ v ∈ vs, ∃ a, v = .ref a ∧ Prn g a) (h0 : 0 ≤ k) (h1 : k < vs.length ∧ vs.length ≤ 100) (h : ∀ a, Prn g a → Q (.ref a) s)
    (hs : subscripted slice false (.ref fa) (.int k u) = operate [.ref fa, .int k u] (getItem (.ref fa) (.int k u)) := by with_unfolding_all rfl) :
    wpAny (model prog w) A (subscriptTail value slice (.ref fa) (.int k u)) Q E s := by
  have hl : s.heap.IsList fa vs.toArray := ⟨_, F.keep _ _ hg, rfl, n, rfl⟩
  have hlt : k.toNat < vs.length := by omega
  obtain ⟨a, ea, pa⟩ := hvs _ (List.getElem_mem hlt)
  refine tail_any hl.typeIs slot_list_getitem.lookup (wpAny_getItem_list hl h0 (by omega) (x := .ref a) (by simp [hlt, ea]) (h a pa)) hs

theorem map5 (a b c X2 X1 r f : Value) (u1 u2 u3 : Option Value) : (fun (y : Str) => if y = ("found" : Str) then some X2 else if y = ("found" : Str) then some X1 else if y = ("told" : Str) then some c else if y = ("token" : Str) then some b else if y = ("at" : Str) then some a else
    if y = ("at" : Str) then u1 else if y = ("token" : Str) then u2 else if y = ("told" : Str) then u3 else List.lookup y [(("tokens" : Str), r), (("found" : Str), f)]) = three (some a) (some b) (some c) [(("tokens" : Str), r), (("found" : Str), X2)] := by
  funext y
  unfold three
  by_cases q1 : y = ("found" : Str)
  · subst q1; rfl
  by_cases q2 : y = ("told" : Str)
  · subst q2; rfl
  by_cases q3 : y = ("token" : Str)
  · subst q3; rfl
  by_cases q4 : y = ("at" : Str)
  · subst q4; rfl
  by_cases q5 : y = ("tokens" : Str)
  · subst q5; rfl
  simp [q1, q2, q3, q4, List.lookup, beq_eq_false_iff_ne.mpr q5, beq_eq_false_iff_ne.mpr q1]
theorem map4 (a b c X2 r f : Value) (u1 u2 u3 : Option Value) : (fun (y : Str) => if y = ("found" : Str) then some X2 else if y = ("told" : Str) then some c else if y = ("token" : Str) then some b else if y = ("at" : Str) then some a else
    if y = ("at" : Str) then u1 else if y = ("token" : Str) then u2 else if y = ("told" : Str) then u3 else List.lookup y [(("tokens" : Str), r), (("found" : Str), f)]) = three (some a) (some b) (some c) [(("tokens" : Str), r), (("found" : Str), X2)] := by
  funext y
  unfold three
  by_cases q1 : y = ("found" : Str)
  · subst q1; rfl
  by_cases q2 : y = ("told" : Str)
  · subst q2; rfl
  by_cases q3 : y = ("token" : Str)
  · subst q3; rfl
  by_cases q4 : y = ("at" : Str)
  · subst q4; rfl
  by_cases q5 : y = ("tokens" : Str)
  · subst q5; rfl
  simp [q1, q2, q3, q4, List.lookup, beq_eq_false_iff_ne.mpr q5, beq_eq_false_iff_ne.mpr q1]
theorem len_app (x y : Str) : (x ++ y).length = x.length + y.length := Array.size_append
theorem len_PRINT : (Str.ofString "PRINT").length = 5 := by decide +kernel
theorem len_blank : (Str.ofString " ").length = 1 := by decide +kernel
theorem three_of (l : List (Str × Value)) (h1 : l.lookup ("at" : Str) = none) (h2 : l.lookup ("token" : Str) = none) (h3 : l.lookup ("told" : Str) = none) : (fun y => List.lookup y l) = three none none none l := by
  funext y
  unfold three
  by_cases q1 : y = ("at" : Str)
  · rw [if_pos q1, q1, h1]
  · by_cases q2 : y = ("token" : Str)
    · rw [if_neg q1, if_pos q2, q2, h2]
    · by_cases q3 : y = ("told" : Str)
      · rw [if_neg q1, if_neg q2, if_pos q3, q3, h3]
      · rw [if_neg q1, if_neg q2, if_neg q3]
theorem six_a {i x : Nat} (hi : 0 < i) (h : x = 6 * i - 1) : x + 1 + 5 = 6 * (i + 1) - 1 := by omega
theorem six_b {i x : Nat} (hi : i = 0) (h : x = 6 * i - 1) : x + 5 = 6 * (i + 1) - 1 := by subst hi h; rfl
theorem rowOf (w : World) (fa : Addr) (N : Nat) (hN : N ≤ 100) : Tell w 20 177 [.ref fa] (fun g => Prns g fa N) (fun _ _ v => ∃ s tk, v = .str s tk ∧ s.length = 6 * N - 1) (fun _ _ => False) := by
  unfold Tell
  intro mean mg mb dp un gd l base g gs dr tk os Q E B XB TB hd' hu hP ret rai
  revert XB; k_fill; intro XB
  have cLi := cLine_is
  have reci : recursionLimit = 1000 := rfl
  refine wpAny_call ?_
  k_dflt (refine' enterP (l0 := [("tokens", _)]) ?k1 ?k2 ?k3 ?k6 ?k7 ?k8 ?k9 ?kl ?kB ?_ ?c2 ?c3 ?c4 ?c5; (case k1 => exact B); (case k2 => exact XB); (case k3 => exact TB); (case k6 => k_is); (case k7 => k_is); (case k8 => exact roomZ hd'); (case k9 => exact BindsTo.of_eq rfl); (case kl => exact rfl); (case c5 => decide); (case kB => exact locs rfl); (case c2 => exact rfl); (case c3 => exact rfl); (case c4 => exact rfl); k_whole)
  intro L' h' tk0 F' N' X T
  dsimp only
  k_fold
  obtain ⟨vs, n, hg, hl, hvs⟩ := hP
  (k_with_none; (k_with "ne" => (first | exact ne_gt (by with_reducible assumption) | exact ne_lt (by with_reducible assumption) | with_reducible assumption | exact Ne.symm (by with_reducible assumption) | exact ne_gt (And.left (by with_reducible assumption)) | exact ne_gt (And.left (And.right (by with_reducible assumption))) | exact ne_gt (And.right (by with_reducible assumption)) | exact ne_gt (And.right (And.right (by with_reducible assumption))) | exact ne_lt (And.left (by with_reducible assumption)) | exact ne_lt (And.left (And.right (by with_reducible assumption))) | exact ne_lt (And.right (by with_reducible assumption)) | exact ne_lt (And.right (And.right (by with_reducible assumption))))); (k_with "exec For Tuple Call cons nil" => ((rename Fr _ _ _ _ => lF'); (with_unfolding_all refine' For_turns lF' ?_; k_whole))); (k_with "call type:enumerate" => refine holdE ?_); (k_with "ItemsRest" => refine holdU ?_); (k_with "call ref" => refine hold163 ?_); (k_with "call ref" => refine hold170 ?_); (k_with "subscriptTail" => ((k_dflt (refine' item_prn ?FKw ?gKw ?vKw ?aKw ?bKw ?_; (case FKw => k_asm); (case gKw => assumption); (case vKw => assumption); (case aKw => omega); (case bKw => omega); k_whole)); intro a9 p9)); k_steps; repeat' ((first | (k_dflt (refine' Tell.useE (needsBlank _ _ _) ?B ?F ?N ?XB ?TB ?hk ?hd ?hu ?hp ?_); (case B => k_asm); (case F => k_asm); (case N => k_asm); (case XB => k_asm); (case TB => k_asm); (case hk => exact rfl); (case hd => first | exact roomD (by assumption) (by decide) | ((try dsimp only [ctx] at *); omega)); (case hu => first | exact roomC (by assumption) (by decide) | exact roomU (by assumption) (by decide) | ((try dsimp only [ctx] at *); omega)); (case hp => first | trivial | assumption | (exact prn_keep2 (by k_asm) (by assumption) (by assumption)));  k_whole; intro h9 tk9 F9 N9; (try k_sweep); (try dsimp only)) | (k_dflt (refine' Tell.useT (tokenText _ _) ?B ?F ?N ?XB ?TB ?hk ?hd ?hu ?hp ?_); (case B => k_asm); (case F => k_asm); (case N => k_asm); (case XB => k_asm); (case TB => k_asm); (case hk => exact rfl); (case hd => first | exact roomD (by assumption) (by decide) | ((try dsimp only [ctx] at *); omega)); (case hu => first | exact roomC (by assumption) (by decide) | exact roomU (by assumption) (by decide) | ((try dsimp only [ctx] at *); omega)); (case hp => first | trivial | assumption | (exact prn_keep (by k_asm) (by assumption)));  k_whole; intro h9 tk9 t9 F9 N9; (try k_sweep); (try dsimp only))); k_steps))
  unfold EHold
  rename Fr _ _ _ _ => F0
  rename News _ _ _ _ => N0
  have F1 := Fr_eq (Fr_eq F0 (loc_set "found" _ _)) (three_of _ rfl rfl rfl)
  refine enumOld rfl F1 N0 hg rfl rfl fun I hI => ?_
  clear hI
  refine itemsInd (fun i m => i ≤ N ∧ ∃ s ts u1 u2 u3, m = three u1 u2 u3 [("tokens", .ref fa), ("found", .str s ts)] ∧ s.length = 6 * i - 1) vs ?done ?turn vs 0 _ (Nat.zero_le _) rfl ⟨Nat.zero_le _, _, _, _, _, _, rfl, rfl⟩
  case done =>
    rintro m ⟨_, x, ts, u1, u2, u3, rfl, hx⟩ h tk F N
    unfold three at F
    (k_steps; repeat' ((first | (k_dflt (refine' Tell.useE (needsBlank _ _ _) ?B ?F ?N ?XB ?TB ?hk ?hd ?hu ?hp ?_); (case B => k_asm); (case F => k_asm); (case N => k_asm); (case XB => k_asm); (case TB => k_asm); (case hk => exact rfl); (case hd => first | exact roomD (by assumption) (by decide) | ((try dsimp only [ctx] at *); omega)); (case hu => first | exact roomC (by assumption) (by decide) | exact roomU (by assumption) (by decide) | ((try dsimp only [ctx] at *); omega)); (case hp => first | trivial | assumption | (exact prn_keep2 (by k_asm) (by assumption) (by assumption)));  k_whole; intro h9 tk9 F9 N9; (try k_sweep); (try dsimp only)) | (k_dflt (refine' Tell.useT (tokenText _ _) ?B ?F ?N ?XB ?TB ?hk ?hd ?hu ?hp ?_); (case B => k_asm); (case F => k_asm); (case N => k_asm); (case XB => k_asm); (case TB => k_asm); (case hk => exact rfl); (case hd => first | exact roomD (by assumption) (by decide) | ((try dsimp only [ctx] at *); omega)); (case hu => first | exact roomC (by assumption) (by decide) | exact roomU (by assumption) (by decide) | ((try dsimp only [ctx] at *); omega)); (case hp => first | trivial | assumption | (exact prn_keep (by k_asm) (by assumption)));  k_whole; intro h9 tk9 t9 F9 N9; (try k_sweep); (try dsimp only))); k_steps))
    ((try dsimp only); (try (first | k_unfold | dsimp only [qk])); (try dsimp only); unfold LeaveP; dsimp only; refine ret _ _ _ (Fr.keep (by k_asm)) ?_; try dsimp only)
    exact ⟨_, _, rfl, by rw [← hl]; exact hx⟩
  case turn =>
    rintro i v m hv ⟨hi, x, ts, u1, u2, u3, rfl, hx⟩ T t h tk hT F o1 c1 o2 c2 N
    obtain ⟨a, rfl, pa⟩ := hvs v (List.mem_of_getElem? hv)
    unfold three at F
    have hiN : i < vs.length := (List.getElem?_eq_some_iff.mp hv).1
    (k_steps; repeat' ((first | (k_dflt (refine' Tell.useE (needsBlank _ _ _) ?B ?F ?N ?XB ?TB ?hk ?hd ?hu ?hp ?_); (case B => k_asm); (case F => k_asm); (case N => k_asm); (case XB => k_asm); (case TB => k_asm); (case hk => exact rfl); (case hd => first | exact roomD (by assumption) (by decide) | ((try dsimp only [ctx] at *); omega)); (case hu => first | exact roomC (by assumption) (by decide) | exact roomU (by assumption) (by decide) | ((try dsimp only [ctx] at *); omega)); (case hp => first | trivial | assumption | (exact prn_keep2 (by k_asm) (by assumption) (by assumption)));  k_whole; intro h9 tk9 F9 N9; (try k_sweep); (try dsimp only)) | (k_dflt (refine' Tell.useT (tokenText _ _) ?B ?F ?N ?XB ?TB ?hk ?hd ?hu ?hp ?_); (case B => k_asm); (case F => k_asm); (case N => k_asm); (case XB => k_asm); (case TB => k_asm); (case hk => exact rfl); (case hd => first | exact roomD (by assumption) (by decide) | ((try dsimp only [ctx] at *); omega)); (case hu => first | exact roomC (by assumption) (by decide) | exact roomU (by assumption) (by decide) | ((try dsimp only [ctx] at *); omega)); (case hp => first | trivial | assumption | (exact prn_keep (by k_asm) (by assumption)));  k_whole; intro h9 tk9 t9 F9 N9; (try k_sweep); (try dsimp only))); k_steps))
    · refine' UnrEndW.intro (Fr_eq (by k_asm) (map5 _ _ _ _ _ _ _ _ _ _)) (by k_asm) [] (by k_subL) trivial trivial ⟨rfl, by omega, _, _, _, _, _, rfl, ?len⟩
      case len =>
        rw [len_app, len_app, len_PRINT, len_blank]
        exact six_a (Int.ofNat_lt.mp (by assumption)) hx
    · refine' UnrEndW.intro (Fr_eq (by k_asm) (map4 _ _ _ _ _ _ _ _ _)) (by k_asm) [] (by k_subL) trivial trivial ⟨rfl, by omega, _, _, _, _, _, rfl, ?len⟩
      case len =>
        rw [len_app, len_PRINT]
        exact six_b (Nat.eq_zero_of_not_pos fun q => absurd (Int.ofNat_lt.mpr q) (by assumption)) hx
end Mine
/-! T19 -/
namespace Mine
theorem start_T19 : True := by
  w_top off
  trivial
section
variable {w : World} {k : Nat} {f : Addr} {vs : List Value} {P : Heap → Prop} {mean : ExcName → Option Value} {mg mb : Str → Option Value} {dp un : Nat} {gd : Option (List Code)} {cn : Str} {cs : Scope} {L a : Addr} {ccd : Value} {cl : List (Str × Addr)}
  {A₀ : Around} {outer : List Env} {base g h : Heap} {m : Str → Option Value} {news : List (Addr × Obj)} {gs : Array GenState} {dr : Drawn} {tk : Nat} {os : OsState} {Q E : Value → Shared → Prop}
theorem Tell.useA {z : Int} (C : Tell w k f vs P (fun g h' v => AskRet g h' v z) (fun _ _ => False)) (B : Below A₀ base outer g) (F : Fr g L h m) (N : News g L h news) (XB : (_root_.MineH.hd.heap_1 w.params).In base) (TB : Top _root_.MineH.hd.view_39 (looseW _root_.MineH.hd.view_39 [Str.ofString "BasicError", Str.ofString "PAIRS"]) mean mg mb base) (hk : cs.kind = .function) (hd : dp + k < recursionLimit) (hu : un + 10 * k < cLine) (hp : P h)
    (ret : ∀ h' tk' t1 t2 t5 ad l t n, Fr g L h' m → News g L h' ((t, { cls := .type "tuple", data := .seq #[.str "word" t1, .str "PRINT" t2] }) :: (l, { cls := .type "list", data := .seq #[.ref t] n }) :: (ad, { cls := .type "tuple", data := .seq #[.ref l, .int z t5] }) :: news) → AllNe ad news → AllNe l news → AllNe t news → l ≠ ad → t ≠ l → t ≠ ad → Q (.ref ad) ⟨h', gs, dr, tk', os⟩) :
    CHold (wpAny (model PySem.Challenge.rw_pq0143_01.prog w) (ctx dp un gd (envX cn cs L a ccd cl :: outer)) (call (.ref f) vs) Q E ⟨h, gs, dr, tk, os⟩) :=
  mkC <| Tell.useU C B F N XB TB hk hd hu hp (fun v h' tk' u F' N' r => by
    obtain ⟨t1, t2, t5, ad, l, t, n, _, rfl, n1, g1, d1, n2, g2, d2, d3, n3, g3⟩ := r
    exact ret h' tk' t1 t2 t5 ad l t n F' (News.more F' (News.more F' (News.more F' N' g1 (fun es n q => by cases q) (u _ n1).1) g2 (fun es n q => by cases q) (u _ n2).1) g3 (fun es n q => by cases q) (u _ n3).1) (u _ n1).2 (u _ n2).2 (u _ n3).2 d1 d2 d3) (fun _ _ _ _ _ z => z.elim)
end





/-- the tokens made so far -/
def Got (its : Array Value) (toks : List (Addr × Obj)) : Prop := ∀ v ∈ its.toList, ∃ a t1 t2, v = .ref a ∧ (a, ({ cls := .type "tuple", data := .seq #[.str "word" t1, .str "PRINT" t2] } : Obj)) ∈ toks
theorem got_step {g h : Heap} {L fa : Addr} {X Y Z : Addr × Obj} {o : Obj} {toks : List (Addr × Obj)} (N : News g L h (X :: Y :: Z :: (fa, o) :: toks)) : News g L h ((fa, o) :: X :: toks) := fun p hp => N p (by
  rcases List.mem_cons.mp hp with rfl | hp
  · exact .tail _ (.tail _ (.tail _ (.head _)))
  · rcases List.mem_cons.mp hp with rfl | hp
    · exact .head _
    · exact .tail _ (.tail _ (.tail _ (.tail _ hp))))
theorem got_more {its : Array Value} {toks : List (Addr × Obj)} {x : Addr} {t1 t2 : Tok} (H : Got its toks) : Got (its.toList ++ [Value.ref x]).toArray ((x, ({ cls := .type "tuple", data := .seq #[.str "word" t1, .str "PRINT" t2] } : Obj)) :: toks) := by
  intro v hv
  rw [List.toList_toArray] at hv
  rcases List.mem_append.mp hv with hv | hv
  · obtain ⟨a, t1, t2, e, h⟩ := H v hv
    exact ⟨a, t1, t2, e, .tail _ h⟩
  · exact ⟨x, t1, t2, List.mem_singleton.mp hv, .head _⟩
theorem got_prns {g h : Heap} {L fa : Addr} {its : Array Value} {n N : Nat} {toks : List (Addr × Obj)} (W : News g L h ((fa, W.listOf its n) :: toks)) (hz : its.size = N) (H : Got its toks) : Prns h fa N :=
  ⟨its.toList, n, by rw [Array.toArray_toList]; exact W.get (.head _), by simpa using hz, fun v hv => let ⟨a, t1, t2, e, hm⟩ := H v hv; ⟨a, e, t1, t2, W.get (.tail _ hm)⟩⟩
theorem tokensAsk (w : World) (row : Str) (tr : Tok) (N : Nat) (hN : N ≤ 100) (hrow : row.cps.toList = List.replicate N 63) :
    Tell w 70 156 [.str row tr] (fun _ => True) (fun g h' v => ∃ fa, v = .ref fa ∧ g.get? fa = none ∧ Prns h' fa N) (fun _ _ => False) := by
  have hlen : row.length = N := by rw [← row_len, hrow, List.length_replicate]
  have hr : row.length ≤ 1000 := by omega
  have get : ∀ a, a < N → row.cps.toList[a]? = some 63 := fun a ha => by rw [hrow]; simp [ha]
  have stop : ∀ a, runE isBlk row.cps.toList a = a := fun a => by
    by_cases ha : a < N
    · exact runE_stop (get a ha) rfl
    · exact runE_out (by rw [row_len]; omega)
  unfold Tell
  intro mean mg mb dp un gd l base g gs dr tk os Q E B XB TB hd' hu hP ret rai
  revert XB; k_fill; intro XB
  have cLi := cLine_is
  have reci : recursionLimit = 1000 := rfl
  refine wpAny_call ?_
  k_dflt (refine' enterP (l0 := [("row", _)]) ?k1 ?k2 ?k3 ?k6 ?k7 ?k8 ?k9 ?kl ?kB ?_ ?c2 ?c3 ?c4 ?c5; (case k1 => exact B); (case k2 => exact XB); (case k3 => exact TB); (case k6 => k_is); (case k7 => k_is); (case k8 => exact roomZ hd'); (case k9 => exact BindsTo.of_eq rfl); (case kl => exact rfl); (case c5 => decide); (case kB => exact locs rfl); (case c2 => exact rfl); (case c3 => exact rfl); (case c4 => exact rfl); k_whole)
  intro L' h' tk0 F' N' X T
  dsimp only
  k_fold
  (k_with_none; (k_with "ne" => (first | exact ne_gt (by with_reducible assumption) | exact ne_lt (by with_reducible assumption) | with_reducible assumption | exact Ne.symm (by with_reducible assumption) | exact ne_gt (And.left (by with_reducible assumption)) | exact ne_gt (And.left (And.right (by with_reducible assumption))) | exact ne_gt (And.right (by with_reducible assumption)) | exact ne_gt (And.right (And.right (by with_reducible assumption))) | exact ne_lt (And.left (by with_reducible assumption)) | exact ne_lt (And.left (And.right (by with_reducible assumption))) | exact ne_lt (And.right (by with_reducible assumption)) | exact ne_lt (And.right (And.right (by with_reducible assumption))))); (k_with "exec While" => refine holdW ?_); (k_with "call ref" => refine hold34 ?_); (k_with "exec Raise some none" => refine Raise_be rfl ?_); (k_with "call ref" => refine hold86 ?_); (k_with "call ref" => refine hold149 ?_); (k_with "call builtin:list.extend" => (k_dflt (refine' kl_extend ?FKw ?NKw ?bKw (by exact rfl) ?neKw ?UKw ?dKw ?zKw ?yKw ?_; (case FKw => k_asm); (case NKw => k_asm); (case bKw => k_mem); (case UKw => k_upd); (case neKw => simp); (case dKw => exact not_long (by simp; omega)); (case zKw => (rw [sizeLine_eq]; simp; omega)); (case yKw => (rw [sizeLine_eq]; simp; omega))); intro h' F' N'; (try dsimp only at N'); (try k_sweep))); k_steps; repeat' ((first | (k_dflt (refine' Tell.useA (‹Tell _ 60 149 _ _ _ _›) ?B ?F ?N ?XB ?TB ?hk ?hd ?hu ?hp ?_); (case B => k_asm); (case F => k_asm); (case N => k_asm); (case XB => k_asm); (case TB => k_asm); (case hk => exact rfl); (case hd => first | exact roomD (by assumption) (by decide) | ((try dsimp only [ctx]); omega)); (case hu => first | exact roomC (by assumption) (by decide) | exact roomU (by assumption) (by decide) | ((try dsimp only [ctx]); omega)); (case hp => first | trivial | assumption);  k_whole; intro h9 tk9 t19 t29 t59 a9 l9 x9 n9 F9 N9d q9 qq9 qqq9 d9 dd9 ddd9; (replace d9 := neN d9); (replace dd9 := neN dd9); (replace ddd9 := neN ddd9); (dsimp only [AllNe] at q9 qq9 qqq9); (have nA9 := q9.1); (have nB9 := qq9.1); (have nC9 := qqq9.1); clear q9 qq9 qqq9; (try k_sweep); (try dsimp only)) | (k_dflt (refine' Tell.useT (skippedE _ _ _ _ _ ?q1 ?q2) ?B ?F ?N ?XB ?TB ?hk ?hd ?hu ?hp ?_); (case B => k_asm); (case F => k_asm); (case N => k_asm); (case XB => k_asm); (case TB => k_asm); (case hk => exact rfl); (case hd => first | exact roomD (by assumption) (by decide) | ((try dsimp only [ctx] at *); omega)); (case hu => first | exact roomC (by assumption) (by decide) | exact roomU (by assumption) (by decide) | ((try dsimp only [ctx] at *); omega)); (case hp => first | trivial | assumption); (case q1 => assumption); (case q2 => omega); k_whole; intro h9 tk9 t9 F9 N9; (try k_sweep); (try dsimp only)) | (unfold CHold; (k_dflt (refine' mkBE _ _ _ _ _ _ _ _ _ _ _ _ _ _ _ _ _ _ _ _ _ _ _ _ _ ?B ?F ?X ?N ?T ?hk ?hd ?hu ?_; (case B => k_asm); (case F => k_asm); (case X => k_asm); (case N => k_asm); (case T => k_asm); (case hk => exact rfl); (case hd => first | exact roomD (by assumption) (by decide) | ((try dsimp only [ctx] at *); omega)); (case hu => first | exact roomC (by assumption) (by decide) | exact roomU (by assumption) (by decide) | ((try dsimp only [ctx] at *); omega)); k_whole); intro x8 d8 t8 h8 k8 u8 v8 F8 N8 e8 n8; (try k_sweep); (try dsimp only)))); k_steps))
  unfold WHold
  rename Fr _ _ _ _ => F0
  rename News _ _ _ _ => N0
  have F1 := Fr_eq F0 (loc_set2 _ _ _ _ _)
  have F3 := Fr_eq F1 (told_none (t := "told") _ rfl)
  have e0 : runE isBlk row.cps.toList (Int.toNat 0) = 0 := stop 0
  rw [e0] at F3 N0
  refine while_rule (ι := Nat) (fun i s => ∃ h tk fa its n u ta toks, s = ⟨h, gs, dr, tk, os⟩ ∧ Fr g L' h (fun y => if y = "told" then u else List.lookup y [("row", .str row tr), ("at", .int i ta), ("found", .ref fa)]) ∧ News g L' h ((fa, W.listOf its n) :: toks) ∧ its.size = i ∧ i ≤ N ∧ (∀ p ∈ toks, p.1 ≠ fa) ∧ Got its toks) (fun i => row.length - i) ?hE ?turn 0 _ ⟨_, _, _, _, _, none, _, [], rfl, F3, fun p hp => N0 p (.tail _ hp), rfl, Nat.zero_le _, fun _ h => (by cases h), fun _ h => (by cases h)⟩
  case hE => with_unfolding_all passes_own
  case turn =>
    rintro a s ⟨h, tk, fa, its, n, u, ta, toks, rfl, F2, N2, hz, haN, hne, hgot⟩
    clear F0 N0 F1 F3
    dsimp only at F2 ⊢
    by_cases hlt : a < row.length
    · have H := tokAsk w row tr a ta hr (get a (by omega))
      (k_steps; repeat' ((first | (k_dflt (refine' Tell.useA (‹Tell _ 60 149 _ _ _ _›) ?B ?F ?N ?XB ?TB ?hk ?hd ?hu ?hp ?_); (case B => k_asm); (case F => k_asm); (case N => k_asm); (case XB => k_asm); (case TB => k_asm); (case hk => exact rfl); (case hd => first | exact roomD (by assumption) (by decide) | ((try dsimp only [ctx]); omega)); (case hu => first | exact roomC (by assumption) (by decide) | exact roomU (by assumption) (by decide) | ((try dsimp only [ctx]); omega)); (case hp => first | trivial | assumption);  k_whole; intro h9 tk9 t19 t29 t59 a9 l9 x9 n9 F9 N9d q9 qq9 qqq9 d9 dd9 ddd9; (replace d9 := neN d9); (replace dd9 := neN dd9); (replace ddd9 := neN ddd9); (dsimp only [AllNe] at q9 qq9 qqq9); (have nA9 := q9.1); (have nB9 := qq9.1); (have nC9 := qqq9.1); clear q9 qq9 qqq9; (try k_sweep); (try dsimp only)) | (k_dflt (refine' Tell.useT (skippedE _ _ _ _ _ ?q1 ?q2) ?B ?F ?N ?XB ?TB ?hk ?hd ?hu ?hp ?_); (case B => k_asm); (case F => k_asm); (case N => k_asm); (case XB => k_asm); (case TB => k_asm); (case hk => exact rfl); (case hd => first | exact roomD (by assumption) (by decide) | ((try dsimp only [ctx] at *); omega)); (case hu => first | exact roomC (by assumption) (by decide) | exact roomU (by assumption) (by decide) | ((try dsimp only [ctx] at *); omega)); (case hp => first | trivial | assumption); (case q1 => assumption); (case q2 => omega); k_whole; intro h9 tk9 t9 F9 N9; (try k_sweep); (try dsimp only)) | (unfold CHold; (k_dflt (refine' mkBE _ _ _ _ _ _ _ _ _ _ _ _ _ _ _ _ _ _ _ _ _ _ _ _ _ ?B ?F ?X ?N ?T ?hk ?hd ?hu ?_; (case B => k_asm); (case F => k_asm); (case X => k_asm); (case N => k_asm); (case T => k_asm); (case hk => exact rfl); (case hd => first | exact roomD (by assumption) (by decide) | ((try dsimp only [ctx] at *); omega)); (case hu => first | exact roomC (by assumption) (by decide) | exact roomU (by assumption) (by decide) | ((try dsimp only [ctx] at *); omega)); k_whole); intro x8 d8 t8 h8 k8 u8 v8 F8 N8 e8 n8; (try k_sweep); (try dsimp only)))); k_steps))
      refine WhlIf.yes (by simp [hlt]) ?_
      (k_steps; repeat' ((first | (k_dflt (refine' Tell.useA (‹Tell _ 60 149 _ _ _ _›) ?B ?F ?N ?XB ?TB ?hk ?hd ?hu ?hp ?_); (case B => k_asm); (case F => k_asm); (case N => k_asm); (case XB => k_asm); (case TB => k_asm); (case hk => exact rfl); (case hd => first | exact roomD (by assumption) (by decide) | ((try dsimp only [ctx]); omega)); (case hu => first | exact roomC (by assumption) (by decide) | exact roomU (by assumption) (by decide) | ((try dsimp only [ctx]); omega)); (case hp => first | trivial | assumption);  k_whole; intro h9 tk9 t19 t29 t59 a9 l9 x9 n9 F9 N9d q9 qq9 qqq9 d9 dd9 ddd9; (replace d9 := neN d9); (replace dd9 := neN dd9); (replace ddd9 := neN ddd9); (dsimp only [AllNe] at q9 qq9 qqq9); (have nA9 := q9.1); (have nB9 := qq9.1); (have nC9 := qqq9.1); clear q9 qq9 qqq9; (try k_sweep); (try dsimp only)) | (k_dflt (refine' Tell.useT (skippedE _ _ _ _ _ ?q1 ?q2) ?B ?F ?N ?XB ?TB ?hk ?hd ?hu ?hp ?_); (case B => k_asm); (case F => k_asm); (case N => k_asm); (case XB => k_asm); (case TB => k_asm); (case hk => exact rfl); (case hd => first | exact roomD (by assumption) (by decide) | ((try dsimp only [ctx] at *); omega)); (case hu => first | exact roomC (by assumption) (by decide) | exact roomU (by assumption) (by decide) | ((try dsimp only [ctx] at *); omega)); (case hp => first | trivial | assumption); (case q1 => assumption); (case q2 => omega); k_whole; intro h9 tk9 t9 F9 N9; (try k_sweep); (try dsimp only)) | (unfold CHold; (k_dflt (refine' mkBE _ _ _ _ _ _ _ _ _ _ _ _ _ _ _ _ _ _ _ _ _ _ _ _ _ ?B ?F ?X ?N ?T ?hk ?hd ?hu ?_; (case B => k_asm); (case F => k_asm); (case X => k_asm); (case N => k_asm); (case T => k_asm); (case hk => exact rfl); (case hd => first | exact roomD (by assumption) (by decide) | ((try dsimp only [ctx] at *); omega)); (case hu => first | exact roomC (by assumption) (by decide) | exact roomU (by assumption) (by decide) | ((try dsimp only [ctx] at *); omega)); k_whole); intro x8 d8 t8 h8 k8 u8 v8 F8 N8 e8 n8; (try k_sweep); (try dsimp only)))); k_steps))
      unfold TEnd
      rename News _ _ _ (_ :: _ :: _ :: _ :: _) => N9
      rename Fr _ _ _ _ => F9
      rw [show runE isBlk row.cps.toList ((a + 1 : Nat) : Int).toNat = a + 1 from stop (a + 1)] at F9
      refine ⟨a + 1, by omega, _, _, _, _, _, some _, _, _ :: toks, rfl, Fr_eq (by k_asm) (turn_map (a := "at") (t := "told") (by decide) _ _ _ _ _), got_step N9, by simp; omega, by omega, ?_, got_more hgot⟩
      refine List.forall_mem_cons.mpr ⟨?_, hne⟩
      exact fun q => nC9 q.symm
    · (k_steps; repeat' ((first | (k_dflt (refine' Tell.useA (‹Tell _ 60 149 _ _ _ _›) ?B ?F ?N ?XB ?TB ?hk ?hd ?hu ?hp ?_); (case B => k_asm); (case F => k_asm); (case N => k_asm); (case XB => k_asm); (case TB => k_asm); (case hk => exact rfl); (case hd => first | exact roomD (by assumption) (by decide) | ((try dsimp only [ctx]); omega)); (case hu => first | exact roomC (by assumption) (by decide) | exact roomU (by assumption) (by decide) | ((try dsimp only [ctx]); omega)); (case hp => first | trivial | assumption);  k_whole; intro h9 tk9 t19 t29 t59 a9 l9 x9 n9 F9 N9d q9 qq9 qqq9 d9 dd9 ddd9; (replace d9 := neN d9); (replace dd9 := neN dd9); (replace ddd9 := neN ddd9); (dsimp only [AllNe] at q9 qq9 qqq9); (have nA9 := q9.1); (have nB9 := qq9.1); (have nC9 := qqq9.1); clear q9 qq9 qqq9; (try k_sweep); (try dsimp only)) | (k_dflt (refine' Tell.useT (skippedE _ _ _ _ _ ?q1 ?q2) ?B ?F ?N ?XB ?TB ?hk ?hd ?hu ?hp ?_); (case B => k_asm); (case F => k_asm); (case N => k_asm); (case XB => k_asm); (case TB => k_asm); (case hk => exact rfl); (case hd => first | exact roomD (by assumption) (by decide) | ((try dsimp only [ctx] at *); omega)); (case hu => first | exact roomC (by assumption) (by decide) | exact roomU (by assumption) (by decide) | ((try dsimp only [ctx] at *); omega)); (case hp => first | trivial | assumption); (case q1 => assumption); (case q2 => omega); k_whole; intro h9 tk9 t9 F9 N9; (try k_sweep); (try dsimp only)) | (unfold CHold; (k_dflt (refine' mkBE _ _ _ _ _ _ _ _ _ _ _ _ _ _ _ _ _ _ _ _ _ _ _ _ _ ?B ?F ?X ?N ?T ?hk ?hd ?hu ?_; (case B => k_asm); (case F => k_asm); (case X => k_asm); (case N => k_asm); (case T => k_asm); (case hk => exact rfl); (case hd => first | exact roomD (by assumption) (by decide) | ((try dsimp only [ctx] at *); omega)); (case hu => first | exact roomC (by assumption) (by decide) | exact roomU (by assumption) (by decide) | ((try dsimp only [ctx] at *); omega)); k_whole); intro x8 d8 t8 h8 k8 u8 v8 F8 N8 e8 n8; (try k_sweep); (try dsimp only)))); k_steps))
      refine WhlIf.no (by simp; omega) ?_
      (k_steps; repeat' ((first | (k_dflt (refine' Tell.useA (‹Tell _ 60 149 _ _ _ _›) ?B ?F ?N ?XB ?TB ?hk ?hd ?hu ?hp ?_); (case B => k_asm); (case F => k_asm); (case N => k_asm); (case XB => k_asm); (case TB => k_asm); (case hk => exact rfl); (case hd => first | exact roomD (by assumption) (by decide) | ((try dsimp only [ctx]); omega)); (case hu => first | exact roomC (by assumption) (by decide) | exact roomU (by assumption) (by decide) | ((try dsimp only [ctx]); omega)); (case hp => first | trivial | assumption);  k_whole; intro h9 tk9 t19 t29 t59 a9 l9 x9 n9 F9 N9d q9 qq9 qqq9 d9 dd9 ddd9; (replace d9 := neN d9); (replace dd9 := neN dd9); (replace ddd9 := neN ddd9); (dsimp only [AllNe] at q9 qq9 qqq9); (have nA9 := q9.1); (have nB9 := qq9.1); (have nC9 := qqq9.1); clear q9 qq9 qqq9; (try k_sweep); (try dsimp only)) | (k_dflt (refine' Tell.useT (skippedE _ _ _ _ _ ?q1 ?q2) ?B ?F ?N ?XB ?TB ?hk ?hd ?hu ?hp ?_); (case B => k_asm); (case F => k_asm); (case N => k_asm); (case XB => k_asm); (case TB => k_asm); (case hk => exact rfl); (case hd => first | exact roomD (by assumption) (by decide) | ((try dsimp only [ctx] at *); omega)); (case hu => first | exact roomC (by assumption) (by decide) | exact roomU (by assumption) (by decide) | ((try dsimp only [ctx] at *); omega)); (case hp => first | trivial | assumption); (case q1 => assumption); (case q2 => omega); k_whole; intro h9 tk9 t9 F9 N9; (try k_sweep); (try dsimp only)) | (unfold CHold; (k_dflt (refine' mkBE _ _ _ _ _ _ _ _ _ _ _ _ _ _ _ _ _ _ _ _ _ _ _ _ _ ?B ?F ?X ?N ?T ?hk ?hd ?hu ?_; (case B => k_asm); (case F => k_asm); (case X => k_asm); (case N => k_asm); (case T => k_asm); (case hk => exact rfl); (case hd => first | exact roomD (by assumption) (by decide) | ((try dsimp only [ctx] at *); omega)); (case hu => first | exact roomC (by assumption) (by decide) | exact roomU (by assumption) (by decide) | ((try dsimp only [ctx] at *); omega)); k_whole); intro x8 d8 t8 h8 k8 u8 v8 F8 N8 e8 n8; (try k_sweep); (try dsimp only)))); k_steps))
      ((try dsimp only); (try (first | k_unfold | dsimp only [qk])); (try dsimp only); unfold LeaveP; dsimp only; refine ret _ _ _ (Fr.keep (by k_asm)) ?_; try dsimp only)
      exact ⟨fa, rfl, News.fresh N2 (.head _), got_prns N2 (by omega) hgot⟩
end Mine
/-! T20 -/
namespace Mine
theorem start_T20 : True := by
  w_top off
  trivial
section



theorem canonicalAsk (w : World) (row : Str) (tr : Tok) (N : Nat) (hN : N ≤ 100) (hrow : row.cps.toList = List.replicate N 63) :
    Tell w 75 184 [.str row tr] (fun _ => True) (fun g h' v => 6 * N - 1 ≤ 255) (fun c v => c = "SN" ∧ (∃ tk, v = .int 255 tk) ∧ 255 < 6 * N - 1) := by
  unfold Tell
  intro mean mg mb dp un gd l base g gs dr tk os Q E B XB TB hd' hu hP ret rai
  revert XB; k_fill; intro XB
  have cLi := cLine_is
  have reci : recursionLimit = 1000 := rfl
  refine wpAny_call ?_
  k_dflt (refine' enterP (l0 := [("row", _)]) ?k1 ?k2 ?k3 ?k6 ?k7 ?k8 ?k9 ?kl ?kB ?_ ?c2 ?c3 ?c4 ?c5; (case k1 => exact B); (case k2 => exact XB); (case k3 => exact TB); (case k6 => k_is); (case k7 => k_is); (case k8 => exact roomZ hd'); (case k9 => exact BindsTo.of_eq rfl); (case kl => exact rfl); (case c5 => decide); (case kB => exact locs rfl); (case c2 => exact rfl); (case c3 => exact rfl); (case c4 => exact rfl); k_whole)
  intro L' h' tk0 F' N' X T
  dsimp only
  k_fold
  (k_with_none; (k_with "ne" => (first | exact ne_gt (by with_reducible assumption) | exact ne_lt (by with_reducible assumption) | with_reducible assumption | exact Ne.symm (by with_reducible assumption) | exact ne_gt (And.left (by with_reducible assumption)) | exact ne_gt (And.left (And.right (by with_reducible assumption))) | exact ne_gt (And.right (by with_reducible assumption)) | exact ne_gt (And.right (And.right (by with_reducible assumption))) | exact ne_lt (And.left (by with_reducible assumption)) | exact ne_lt (And.left (And.right (by with_reducible assumption))) | exact ne_lt (And.right (by with_reducible assumption)) | exact ne_lt (And.right (And.right (by with_reducible assumption))))); (k_with "call ref" => refine hold34 ?_); (k_with "exec Raise some none" => refine Raise_be rfl ?_); (k_with "call ref" => refine hold156 ?_); (k_with "call ref" => refine hold177 ?_); k_steps; repeat' ((first | (unfold CHold; (k_dflt (refine' Tell.use (rowOf _ _ _ ?q1) ?B ?F ?N ?XB ?TB ?hk ?hd ?hu ?hp ?_ ?_); (case B => k_asm); (case F => k_asm); (case N => k_asm); (case XB => k_asm); (case TB => k_asm); (case hk => exact rfl); (case hd => first | exact roomD (by assumption) (by decide) | ((try dsimp only [ctx] at *); omega)); (case hu => first | exact roomC (by assumption) (by decide) | exact roomU (by assumption) (by decide) | ((try dsimp only [ctx] at *); omega)); (case hp => first | trivial | assumption); (case q1 => assumption); (try any_goals (exact fun _ _ _ _ _ z => z.elim)); k_whole; intro v9 h9 tk9 st9 F9 N9 r9; (try dsimp only at r9); (first | subst r9 | (obtain ⟨t9, r9⟩ := r9; subst r9) | (obtain ⟨n9, t9, r9, e9⟩ := r9; subst r9) | skip); (try k_sweep); (try dsimp only))) | (unfold CHold; (k_dflt (refine' Tell.useU (tokensAsk _ _ _ _ ?q1 ?q2) ?B ?F ?N ?XB ?TB ?hk ?hd ?hu ?hp ?_ ?_); (case B => k_asm); (case F => k_asm); (case N => k_asm); (case XB => k_asm); (case TB => k_asm); (case hk => exact rfl); (case hd => first | exact roomD (by assumption) (by decide) | ((try dsimp only [ctx] at *); omega)); (case hu => first | exact roomC (by assumption) (by decide) | exact roomU (by assumption) (by decide) | ((try dsimp only [ctx] at *); omega)); (case hp => first | trivial | assumption); (case q1 => assumption); (case q2 => assumption); (try any_goals (exact fun _ _ _ _ _ z => z.elim)); k_whole; intro v9 h9 tk9 u9 F9 N9 r9; (obtain ⟨fa9, e9, n9, p9⟩ := r9); subst e9; (try dsimp only at r9);  (try k_sweep); (try dsimp only))) | (unfold CHold; (k_dflt (refine' mkBE _ _ _ _ _ _ _ _ _ _ _ _ _ _ _ _ _ _ _ _ _ _ _ _ _ ?B ?F ?X ?N ?T ?hk ?hd ?hu ?_; (case B => k_asm); (case F => k_asm); (case X => k_asm); (case N => k_asm); (case T => k_asm); (case hk => exact rfl); (case hd => first | exact roomD (by assumption) (by decide) | ((try dsimp only [ctx] at *); omega)); (case hu => first | exact roomC (by assumption) (by decide) | exact roomU (by assumption) (by decide) | ((try dsimp only [ctx] at *); omega)); k_whole); intro x8 d8 t8 h8 k8 u8 v8 F8 N8 e8 n8; (try k_sweep); (try dsimp only)))); k_steps))
  · (refine ⟨_, _, _, rfl, X.keeps (Fr.keep (by k_asm)), News.get (by k_asm) (.tail _ (.head _)), ?_⟩; (try k_unfold); (try dsimp only); refine leave_made B (by k_asm) (by k_asm) (by assumption) fun hh1 fl1 sm1 => ?_; refine rai _ _ _ _ _ ?_ fl1 sm1)
    exact ⟨rfl, ⟨_, rfl⟩, by omega⟩
  · ((try dsimp only); (try (first | k_unfold | dsimp only [qk])); (try dsimp only); unfold LeaveP; dsimp only; refine ret _ _ _ (Fr.keep (by k_asm)) ?_; try dsimp only)
    show 6 * N - 1 ≤ 255
    omega
end



theorem refRow (w : World) (x : Value) (X : Str → Value → Prop) (Rr : Prop) (tw : Tok) (hX : ∀ c v, X c v → handedIn v = true) (H : Tell w 75 184 [x] (fun _ => True) (fun _ _ _ => Rr) X) :
    TellT w 80 277 [.str "row" tw, x] (fun _ => True) (RefRet Rr X) := by
  unfold TellT
  intro mean mg mb dp un gd l base g gs dr tk os Q E B XB TB D hd' hu hP ret
  revert XB; k_fill; intro XB
  have cLi := cLine_is
  have reci : recursionLimit = 1000 := rfl
  refine wpAny_call ?_
  k_dflt (refine' enterP (l0 := [("given", _), ("way", _)]) ?k1 ?k2 ?k3 ?k6 ?k7 ?k8 ?k9 ?kl ?kB ?_ ?c2 ?c3 ?c4 ?c5; (case k1 => exact B); (case k2 => exact XB); (case k3 => exact TB); (case k6 => k_is); (case k7 => k_is); (case k8 => exact roomZ hd'); (case k9 => exact BindsTo.of_eq rfl); (case kl => exact rfl); (case c5 => decide); (case kB => exact locs rfl); (case c2 => exact rfl); (case c3 => exact rfl); (case c4 => exact rfl); k_whole)
  intro L' h' tk0 F' N' X T
  dsimp only
  k_fold
  (k_with_none; (k_with "ne" => (first | exact ne_gt (by with_reducible assumption) | exact ne_lt (by with_reducible assumption) | with_reducible assumption | exact Ne.symm (by with_reducible assumption) | exact ne_gt (And.left (by with_reducible assumption)) | exact ne_gt (And.left (And.right (by with_reducible assumption))) | exact ne_gt (And.right (by with_reducible assumption)) | exact ne_gt (And.right (And.right (by with_reducible assumption))) | exact ne_lt (And.left (by with_reducible assumption)) | exact ne_lt (And.left (And.right (by with_reducible assumption))) | exact ne_lt (And.right (by with_reducible assumption)) | exact ne_lt (And.right (And.right (by with_reducible assumption))))); (k_with "call ref" => refine hold184 ?_); (k_with "getAttr ref" => ((with_reducible refine' be_code rfl ?XKw ?xKw ?dKw ?_); (case XKw => exact Frag.In.keeps (by k_asm) (Fr.keep (by k_asm))); (case xKw => exact News.get (by k_asm) (.head _)); (case dKw => exact News.get (by k_asm) (.tail _ (.head _))))); (k_with "getAttr ref" => ((with_reducible refine' be_told rfl ?XKw ?xKw ?dKw ?vKw ?_); (case XKw => exact Frag.In.keeps (by k_asm) (Fr.keep (by k_asm))); (case xKw => exact News.get (by k_asm) (.head _)); (case dKw => exact News.get (by k_asm) (.tail _ (.head _))); (case vKw => assumption))); k_steps; repeat' ((first | (unfold CHold; (k_dflt (refine' Tell.use (‹Tell _ 75 184 _ _ _ _›) ?B ?F ?N ?XB ?TB ?hk ?hd ?hu ?hp ?_ ?_); (case B => k_asm); (case F => k_asm); (case N => k_asm); (case XB => k_asm); (case TB => k_asm); (case hk => exact rfl); (case hd => first | exact roomD (by assumption) (by decide) | ((try dsimp only [ctx] at *); omega)); (case hu => first | exact roomC (by assumption) (by decide) | exact roomU (by assumption) (by decide) | ((try dsimp only [ctx] at *); omega)); (case hp => first | trivial | assumption);  (rotate_left 1; intro e7 h7 k7 c7 v7 x7 fl7 sm7; refine holdR ?_; rotate_right 1); k_whole; intro v9 h9 tk9 st9 F9 N9 r9; (try dsimp only at r9); (first | subst r9 | (obtain ⟨t9, r9⟩ := r9; subst r9) | (obtain ⟨n9, t9, r9, e9⟩ := r9; subst r9) | skip); (try k_sweep); (try dsimp only)))); k_steps))
  · ((try dsimp only); (try (first | k_unfold | dsimp only [qk])); (try dsimp only); unfold LeaveP; dsimp only; refine ret _ _ _ ?_ ?_; try dsimp only)
    · exact StaysF.same (Fr.keep (by k_asm))
    · exact .inl ⟨rfl, by assumption⟩
  · unfold RHold
    rename (_ : Str) → _ → _ => XX
    rename Fly _ _ _ _ _ _ _ _ => fl
    rename Heap.UpToSlots _ _ => sm
    refine caught_be fl F' B sm XB TB D ?_
    intro h1 g1 d vs sl tc t1 t2 tk1 T1 F1 N1 de B1 X1 TT1 D1
    have hv := hX _ _ (by assumption)
    clear F' N'
    (k_steps; repeat' ((first | (unfold CHold; (k_dflt (refine' Tell.use (‹Tell _ 75 184 _ _ _ _›) ?B ?F ?N ?XB ?TB ?hk ?hd ?hu ?hp ?_ ?_); (case B => k_asm); (case F => k_asm); (case N => k_asm); (case XB => k_asm); (case TB => k_asm); (case hk => exact rfl); (case hd => first | exact roomD (by assumption) (by decide) | ((try dsimp only [ctx] at *); omega)); (case hu => first | exact roomC (by assumption) (by decide) | exact roomU (by assumption) (by decide) | ((try dsimp only [ctx] at *); omega)); (case hp => first | trivial | assumption);  (rotate_left 1; intro e7 h7 k7 c7 v7 x7 fl7 sm7; refine holdR ?_; rotate_right 1); k_whole; intro v9 h9 tk9 st9 F9 N9 r9; (try dsimp only at r9); (first | subst r9 | (obtain ⟨t9, r9⟩ := r9; subst r9) | (obtain ⟨n9, t9, r9, e9⟩ := r9; subst r9) | skip); (try k_sweep); (try dsimp only)))); k_steps))
    ((try dsimp only); (try (first | k_unfold | dsimp only [qk])); (try dsimp only); unfold LeaveP; dsimp only; refine ret _ _ _ ?_ ?_; try dsimp only)
    · exact StaysF.of T1 (Fr.keep (by k_asm))
    · exact .inr ⟨_, _, _, _, by assumption, rfl, turn_back T1 (News.fresh (by k_asm) (.head _)), News.get (by k_asm) (.head _)⟩
end Mine
/-! T21 -/
namespace Mine
theorem start_T21 : True := by
  w_top off
  trivial
/-- what a refusal hands back: the code and the place -/
def TupRet (c : Str) (z : Int) (g h' : Heap) (v : Value) : Prop := ∃ ad tc tk, v = .ref ad ∧ g.get? ad = none ∧ h'.get? ad = some { cls := .type "tuple", data := .seq #[.str c tc, .int z tk] }
theorem TellT.mono {w : World} {k : Nat} {f : Addr} {vs : List Value} {P : Heap → Prop} {R R' : Heap → Heap → Value → Prop} (C : TellT w k f vs P R) (hR : ∀ g h v, R g h v → R' g h v) : TellT w k f vs P R' := by
  intro mean mg mb dp un gd l base g gs dr tk os Q E B XB TB D h1 h2 h3 ret
  exact C mean mg mb dp un gd l base g gs dr tk os Q E B XB TB D h1 h2 h3 (fun v h' tk' st r => ret v h' tk' st (hR _ _ _ r))
theorem bads_blank {b : List Nat × Option (Str × Nat)} (hb : b ∈ bads) : runL isBlk b.1 = 0 := by
  simp only [bads, List.mem_cons, List.not_mem_nil, or_false] at hb
  rcases hb with rfl | rfl | rfl | rfl | rfl | rfl | rfl | rfl | rfl | rfl | rfl | rfl | rfl <;> rfl
theorem tokNone (w : World) (row : Str) (tr tw : Tok) (bad : List Nat) (h255 : row.length ≤ 255) (hlow : Low row) (hb : (bad, none) ∈ bads) (ht : Tail bad row.cps.toList) :
    TellT w 80 277 [.str "tokens" tw, .str row tr] (fun _ => True) (fun _ _ v => v = .none) :=
  (refTokens w (.str row tr) _ _ tw (fun c v ⟨o, tk, _, e⟩ => by rw [e]; rfl) (tokensOf w row tr bad none (by omega) h255 hlow (fun a ha => bad_says (b := (bad, none)) (by omega) hlow hb ha) (bads_blank hb) ht)).mono
    (fun g h v R => R.elim (fun z => z.1) fun ⟨c, p, ad, tc, ⟨o, tk, q, _⟩, _⟩ => by cases q)
theorem tokSome (w : World) (row : Str) (tr tw : Tok) (bad : List Nat) (c : Str) (o : Nat) (h255 : row.length ≤ 255) (hlow : Low row) (hb : (bad, some (c, o)) ∈ bads) (ht : Tail bad row.cps.toList) :
    TellT w 80 277 [.str "tokens" tw, .str row tr] (fun _ => True) (TupRet c ((row.length - bad.length + o : Nat) : Int)) :=
  (refTokens w (.str row tr) _ _ tw (fun c v ⟨o, tk, _, e⟩ => by rw [e]; rfl) (tokensOf w row tr bad (some (c, o)) (by omega) h255 hlow (fun a ha => bad_says (b := (bad, some (c, o))) (by omega) hlow hb ha) (bads_blank hb) ht)).mono
    (fun g h v R => R.elim (fun z => by cases z.2) fun ⟨c', p, ad, tc, ⟨o', tk, q, e⟩, h1, h2, h3⟩ => by
      cases q; subst e; exact ⟨ad, tc, tk, h1, h2, h3⟩)
theorem tokFar (w : World) (row : Str) (tr tw : Tok) (hr : row.length ≤ 1000) (h255 : ¬ row.length ≤ 255) : TellT w 80 277 [.str "tokens" tw, .str row tr] (fun _ => True) (TupRet "SN" 255) :=
  (refTokens w (.str row tr) _ _ tw (fun c v ⟨_, tk, e⟩ => by rw [e]; rfl) (tokensLong w row tr hr h255)).mono
    (fun g h v R => R.elim (fun z => z.2.elim) fun ⟨c', p, ad, tc, ⟨q, tk, e⟩, h1, h2, h3⟩ => by
      subst q; subst e; exact ⟨ad, tc, tk, h1, h2, h3⟩)
theorem rowNone (w : World) (row : Str) (tr tw : Tok) (hrow : row.cps.toList = List.replicate 42 63) : TellT w 80 277 [.str "row" tw, .str row tr] (fun _ => True) (fun _ _ v => v = .none) :=
  (refRow w (.str row tr) _ _ tw (fun c v ⟨_, ⟨tk, e⟩, _⟩ => by rw [e]; rfl) (canonicalAsk w row tr 42 (by decide) hrow)).mono
    (fun g h v R => R.elim (fun z => z.1) fun ⟨c, p, ad, tc, ⟨_, _, q⟩, _⟩ => absurd q (by decide))
theorem rowSome (w : World) (row : Str) (tr tw : Tok) (hrow : row.cps.toList = List.replicate 43 63) : TellT w 80 277 [.str "row" tw, .str row tr] (fun _ => True) (TupRet "SN" 255) :=
  (refRow w (.str row tr) _ _ tw (fun c v ⟨_, ⟨tk, e⟩, _⟩ => by rw [e]; rfl) (canonicalAsk w row tr 43 (by decide) hrow)).mono
    (fun g h v R => R.elim (fun z => absurd z.2 (by decide)) fun ⟨c', p, ad, tc, ⟨q, ⟨tk, e⟩, _⟩, h1, h2, h3⟩ => by
      subst q; subst e; exact ⟨ad, tc, tk, h1, h2, h3⟩)
theorem lineSome (w : World) (row : Str) (tr tw : Tok) (hr : row.length ≤ 1000) (h1 : headFigs row.cps.toList ≠ []) (h2 : 5 < (headFigs row.cps.toList).length ∨ 65529 < val (headFigs row.cps.toList)) :
    TellT w 80 277 [.str "line" tw, .str row tr] (fun _ => True) (TupRet "SN" ((runE isBlk row.cps.toList 0 : Nat) : Int)) :=
  (refLine w (.str row tr) (fun c v => c = "SN" ∧ ∃ tk, v = .int ((runE isBlk row.cps.toList 0 : Nat) : Int) tk) tw (fun c v ⟨_, tk, e⟩ => by rw [e]; rfl)
    ((splitNumber w row tr hr).mono (fun g h v R => R.elim (fun z => h1 z.1) (fun z => by
        obtain ⟨_, z1, z2, _⟩ := z
        rcases h2 with h2 | h2 <;> omega)) (fun c v z => ⟨z.1, z.2.1⟩))).mono
    (fun g h v R => R.elim (fun z => z.2.elim) fun ⟨c', p, ad, tc, ⟨q, tk, e⟩, h1, h2, h3⟩ => by
      subst q; subst e; exact ⟨ad, tc, tk, h1, h2, h3⟩)
section
variable {w : World} {k : Nat} {f : Addr} {vs : List Value} {P : Heap → Prop} {mean : ExcName → Option Value} {mg mb : Str → Option Value} {dp un : Nat} {gd : Option (List Code)} {cn : Str} {cs : Scope} {L a : Addr} {ccd : Value} {cl : List (Str × Addr)}
  {A₀ : Around} {outer : List Env} {base g h : Heap} {m : Str → Option Value} {news : List (Addr × Obj)} {gs : Array GenState} {dr : Drawn} {tk : Nat} {os : OsState} {Q E : Value → Shared → Prop}
theorem TellT.useV {X : Value} (C : TellT w k f vs P (fun _ _ v => v = X)) (B : Below A₀ base outer g) (F : Fr g L h m) (N : News g L h news) (XB : (_root_.MineH.hd.heap_1 w.params).In base) (TB : Top _root_.MineH.hd.view_39 (looseW _root_.MineH.hd.view_39 [Str.ofString "BasicError", Str.ofString "PAIRS"]) mean mg mb base) (D : KtsDicts (outer.filterMap (·.frame)) g) (hk : cs.kind = .function)
    (hd : dp + k < recursionLimit) (hu : un + 10 * k < cLine) (hp : P h)
    (ret : ∀ h' tk' g₁, KtsTurn (outer.filterMap (·.frame)) g g₁ → Fr g₁ L h' m → News g₁ L h' news → Below A₀ base outer g₁ → (_root_.MineH.hd.heap_1 w.params).In g₁ → Top _root_.MineH.hd.view_39 (looseW _root_.MineH.hd.view_39 [Str.ofString "BasicError", Str.ofString "PAIRS"]) mean mg mb g₁ → KtsDicts (outer.filterMap (·.frame)) g₁ → Q X ⟨h', gs, dr, tk', os⟩) :
    CHold (wpAny (model PySem.Challenge.rw_pq0143_01.prog w) (ctx dp un gd (envX cn cs L a ccd cl :: outer)) (call (.ref f) vs) Q E ⟨h, gs, dr, tk, os⟩) :=
  mkC <| TellT.use C B F N XB TB D hk hd hu hp fun v h' tk' g₁ T u F' N' B' X' T' D' r => by
    rw [r]
    exact ret h' tk' g₁ T F' N' B' X' T' D'
theorem TellT.useP {c : Str} {z : Int} (C : TellT w k f vs P (TupRet c z)) (B : Below A₀ base outer g) (F : Fr g L h m) (N : News g L h news) (XB : (_root_.MineH.hd.heap_1 w.params).In base) (TB : Top _root_.MineH.hd.view_39 (looseW _root_.MineH.hd.view_39 [Str.ofString "BasicError", Str.ofString "PAIRS"]) mean mg mb base) (D : KtsDicts (outer.filterMap (·.frame)) g) (hk : cs.kind = .function)
    (hd : dp + k < recursionLimit) (hu : un + 10 * k < cLine) (hp : P h)
    (ret : ∀ h' tk' g₁ ad tc t5, KtsTurn (outer.filterMap (·.frame)) g g₁ → Fr g₁ L h' m → News g₁ L h' ((ad, { cls := .type "tuple", data := .seq #[.str c tc, .int z t5] }) :: news) → AllNe ad news → Below A₀ base outer g₁ → (_root_.MineH.hd.heap_1 w.params).In g₁ → Top _root_.MineH.hd.view_39 (looseW _root_.MineH.hd.view_39 [Str.ofString "BasicError", Str.ofString "PAIRS"]) mean mg mb g₁ → KtsDicts (outer.filterMap (·.frame)) g₁ → Q (.ref ad) ⟨h', gs, dr, tk', os⟩) :
    CHold (wpAny (model PySem.Challenge.rw_pq0143_01.prog w) (ctx dp un gd (envX cn cs L a ccd cl :: outer)) (call (.ref f) vs) Q E ⟨h, gs, dr, tk, os⟩) :=
  mkC <| TellT.use C B F N XB TB D hk hd hu hp fun v h' tk' g₁ T u F' N' B' X' T' D' r => by
    obtain ⟨ad, tc, t5, rfl, n, e⟩ := r
    exact ret h' tk' g₁ ad tc t5 T F' (News.more F' N' e (fun es n q => by cases q) (u _ n).1) (u _ n).2 B' X' T' D'
end
theorem longA : (Str.ofString "A" ++ Txt.mul (Str.ofString " ") 254).cps.toList = [65] ++ 32 :: (List.replicate 253 32 ++ []) := by decide +kernel
theorem longLen : (Str.ofString "A" ++ Txt.mul (Str.ofString " ") 254).length = 255 := by decide +kernel
theorem longLen' : (Str.ofString "A" ++ Txt.mul (Str.ofString " ") 255).length = 256 := by decide +kernel
theorem longLow : Low (Str.ofString "A" ++ Txt.mul (Str.ofString " ") 254) := by unfold Low; decide +kernel
theorem ask42 : (Txt.mul (Str.ofString "?") 42).cps.toList = List.replicate 42 63 := by decide +kernel
theorem ask43 : (Txt.mul (Str.ofString "?") 43).cps.toList = List.replicate 43 63 := by decide +kernel
theorem longTail : Tail [] (Str.ofString "A" ++ Txt.mul (Str.ofString " ") 254).cps.toList := by
  rw [longA]
  exact .piece 253 (by decide) .bad
section




theorem longRight (w : World) : TellT w 90 291 [] (fun _ => True) (fun _ _ v => v = .bool true) := by
  unfold TellT
  intro mean mg mb dp un gd l base g gs dr tk os Q E B XB TB D hd' hu hP ret
  revert XB; k_fill; intro XB
  have cLi := cLine_is
  have reci : recursionLimit = 1000 := rfl
  refine wpAny_call ?_
  k_dflt (refine' enterP (l0 := []) ?k1 ?k2 ?k3 ?k6 ?k7 ?k8 ?k9 ?kl ?kB ?_ ?c2 ?c3 ?c4 ?c5; (case k1 => exact B); (case k2 => exact XB); (case k3 => exact TB); (case k6 => k_is); (case k7 => k_is); (case k8 => exact roomZ hd'); (case k9 => exact BindsTo.of_eq rfl); (case kl => exact rfl); (case c5 => decide); (case kB => exact locs rfl); (case c2 => exact rfl); (case c3 => exact rfl); (case c4 => exact rfl); k_whole)
  intro L' h' tk0 F' N' X T
  dsimp only
  k_fold
  (k_with_none; (k_with "ne" => (first | exact ne_gt (by with_reducible assumption) | exact ne_lt (by with_reducible assumption) | with_reducible assumption | exact Ne.symm (by with_reducible assumption) | exact ne_gt (And.left (by with_reducible assumption)) | exact ne_gt (And.left (And.right (by with_reducible assumption))) | exact ne_gt (And.right (by with_reducible assumption)) | exact ne_gt (And.right (And.right (by with_reducible assumption))) | exact ne_lt (And.left (by with_reducible assumption)) | exact ne_lt (And.left (And.right (by with_reducible assumption))) | exact ne_lt (And.right (by with_reducible assumption)) | exact ne_lt (And.right (And.right (by with_reducible assumption))))); (k_with "call ref" => refine hold277 ?_); k_steps; repeat' ((first | ((with_reducible show CHold (wpAny _ _ (call _ ([_, Value.str (Txt.mul (Str.ofString "?") 43) _])) _ _ _)); k_dflt (refine' TellT.useP (rowSome _ _ _ _ ?q1) ?B ?F ?N ?XB ?TB ?D ?hk ?hd ?hu ?hp ?_; (case B => k_asm); (case F => k_asm); (case N => k_asm); (case XB => k_asm); (case TB => k_asm); (case D => k_asm); (case hk => exact rfl); (case hd => first | exact roomD (by assumption) (by decide) | ((try dsimp only [ctx]); omega)); (case hu => first | exact roomC (by assumption) (by decide) | exact roomU (by assumption) (by decide) | ((try dsimp only [ctx]); omega)); (case hp => first | trivial | assumption); (case q1 => exact ask43); k_whole); intro h9 tk9 g9 a9 c9 t9 T9 F9 N9b q9 B9 X9 TT9 D9; (dsimp only [AllNe] at q9); (try k_sweep); (try dsimp only)) | ((with_reducible show CHold (wpAny _ _ (call _ ([_, Value.str (Txt.mul (Str.ofString "?") 42) _])) _ _ _)); k_dflt (refine' TellT.useV (rowNone _ _ _ _ ?q1) ?B ?F ?N ?XB ?TB ?D ?hk ?hd ?hu ?hp ?_; (case B => k_asm); (case F => k_asm); (case N => k_asm); (case XB => k_asm); (case TB => k_asm); (case D => k_asm); (case hk => exact rfl); (case hd => first | exact roomD (by assumption) (by decide) | ((try dsimp only [ctx]); omega)); (case hu => first | exact roomC (by assumption) (by decide) | exact roomU (by assumption) (by decide) | ((try dsimp only [ctx]); omega)); (case hp => first | trivial | assumption); (case q1 => exact ask42); k_whole); intro h9 tk9 g9 T9 F9 N9 B9 X9 TT9 D9; (try k_sweep); (try dsimp only)) | ((with_reducible show CHold (wpAny _ _ (call _ ([_, Value.str (Str.ofString "A" ++ Txt.mul (Str.ofString " ") 255) _])) _ _ _)); k_dflt (refine' TellT.useP (tokFar _ _ _ _ ?q1 ?q2) ?B ?F ?N ?XB ?TB ?D ?hk ?hd ?hu ?hp ?_; (case B => k_asm); (case F => k_asm); (case N => k_asm); (case XB => k_asm); (case TB => k_asm); (case D => k_asm); (case hk => exact rfl); (case hd => first | exact roomD (by assumption) (by decide) | ((try dsimp only [ctx]); omega)); (case hu => first | exact roomC (by assumption) (by decide) | exact roomU (by assumption) (by decide) | ((try dsimp only [ctx]); omega)); (case hp => first | trivial | assumption); (case q1 => exact Nat.le_trans (Nat.le_of_eq longLen') (by decide)); (case q2 => rw [longLen']; decide); k_whole); intro h9 tk9 g9 a9 c9 t9 T9 F9 N9b q9 B9 X9 TT9 D9; (dsimp only [AllNe] at q9); (try k_sweep); (try dsimp only)) | ((with_reducible show CHold (wpAny _ _ (call _ ([_, Value.str (Str.ofString "A" ++ Txt.mul (Str.ofString " ") 254) _])) _ _ _)); k_dflt (refine' TellT.useV (tokNone _ _ _ _ [] ?q1 ?q2 ?q3 ?q4) ?B ?F ?N ?XB ?TB ?D ?hk ?hd ?hu ?hp ?_; (case B => k_asm); (case F => k_asm); (case N => k_asm); (case XB => k_asm); (case TB => k_asm); (case D => k_asm); (case hk => exact rfl); (case hd => first | exact roomD (by assumption) (by decide) | ((try dsimp only [ctx]); omega)); (case hu => first | exact roomC (by assumption) (by decide) | exact roomU (by assumption) (by decide) | ((try dsimp only [ctx]); omega)); (case hp => first | trivial | assumption); (case q1 => exact Nat.le_of_eq longLen); (case q2 => exact longLow); (case q3 => decide); (case q4 => exact longTail); k_whole); intro h9 tk9 g9 T9 F9 N9 B9 X9 TT9 D9; (try k_sweep); (try dsimp only))); k_steps))
  unfold LeaveP
  dsimp only
  refine ret _ _ _ (StaysF.of ?_ (Fr.keep (by k_asm))) rfl
  repeat (first | assumption | refine KtsTurn.trans (by assumption) ?_)
end
end Mine
/-! T22 -/
namespace Mine
theorem start_T22 : True := by
  w_top off
  trivial
/-- what stands stands, but for the slots of the frames l, and for the object b -/
def StaysB (b : Addr) (l : List Env) (g h' : Heap) : Prop := (∀ a o, g.get? a = some o → a ∉ l.filterMap (·.frame) → a ≠ b → h'.get? a = some o) ∧ (∀ a o, g.get? a = some o → a ∈ l.filterMap (·.frame) → ∃ sl, h'.get? a = some { o with slots := sl })
def TellB (w : World) (k : Nat) (f b : Addr) (vs : List Value) (P : Heap → Prop) (R : Heap → Heap → Value → Prop) : Prop :=
  ∀ (mean : ExcName → Option Value) (mg mb : Str → Option Value) (dp un : Nat) (gd : Option (List Code)) (l : List Env) (base g : Heap) (gs : Array GenState) (dr : Drawn) (tk : Nat) (os : OsState) (Q E : Value → Shared → Prop),
    Below (ctx dp un gd l) base l g → (_root_.MineH.hd.heap_1 w.params).In base → Top _root_.MineH.hd.view_39 (looseW _root_.MineH.hd.view_39 [Str.ofString "BasicError", Str.ofString "PAIRS"]) mean mg mb base → KtsDicts (l.filterMap (·.frame)) g → base.get? b = none → b ∉ l.filterMap (·.frame) → dp + k < recursionLimit → un + 10 * k < cLine → P g →
    (∀ v h' tk', StaysB b l g h' → R g h' v → Q v ⟨h', gs, dr, tk', os⟩) →
    wpAny (model PySem.Challenge.rw_pq0143_01.prog w) (ctx dp un gd l) (call (.ref f) vs) Q E ⟨g, gs, dr, tk, os⟩
theorem StaysB.of {b : Addr} {l : List Env} {g g₁ h' : Heap} (T : KtsTurn (l.filterMap (·.frame)) (hideAll g [b]) g₁) (hb : b ∉ l.filterMap (·.frame)) (k : ∀ a o, g₁.get? a = some o → h'.get? a = some o) : StaysB b l g h' :=
  ⟨fun a o e m ne => k a o (T.other a o (hideAll_get _ e (by simpa using ne)) m), fun a o e m => let ⟨sl, q⟩ := T.frame a o (hideAll_get _ e (by rintro q; simp at q; exact hb (q ▸ m))) m; ⟨sl, k a _ q⟩⟩
section
variable {A : Around} {base g h : Heap} {outer : List Env} {L b : Addr} {m : Str → Option Value} {news : List (Addr × Obj)} {o : Obj}
theorem hide_fr (F : Fr g L h m) : Fr (hideAll g [b]) L h m := ⟨F.ns, fun a o e => F.keep a o (of_hideAll _ e), Nat.le_trans (Nat.le_of_eq (hideAll_size _ _)) F.above⟩
theorem hide_news (F : Fr g L h m) (N : News g L h news) (e : g.get? b = some o) : News (hideAll g [b]) L h ((b, o) :: news) := fun p hp => by
  rcases List.mem_cons.mp hp with rfl | hp
  · exact ⟨F.keep _ _ e, fun q => (by have := kts_self F; rw [← q] at this; dsimp only at this; rw [e] at this; cases this), hideAll_none _ (.head _)⟩
  · obtain ⟨n1, n2, n3⟩ := N p hp
    exact ⟨n1, n2, kts_none (fun a o e => of_hideAll _ e) n3⟩
theorem hide_below (B : Below A base outer g) (hb : base.get? b = none) (hf : b ∉ outer.filterMap (·.frame)) : Below A base outer (hideAll g [b]) :=
  ⟨B.stack, fun a o e => hideAll_get _ (B.stays a o e) (by rintro q; simp at q; rw [q, hb] at e; cases e), funFrames_hideAll B.frames fun env he a ha q => hf (List.mem_filterMap.mpr ⟨env, he, by rw [List.mem_singleton.mp ha] at q; exact q⟩)⟩
theorem hide_dicts (D : KtsDicts (outer.filterMap (·.frame)) g) (hf : b ∉ outer.filterMap (·.frame)) : KtsDicts (outer.filterMap (·.frame)) (hideAll g [b]) := fun a ha => by
  obtain ⟨o, es, n, ho, hd⟩ := D a ha
  exact ⟨o, es, n, hideAll_get _ ho (by rintro q; simp at q; exact hf (q ▸ ha)), hd⟩
theorem hide_in {w : World} (X : (_root_.MineH.hd.heap_1 w.params).In base) (B : Below A base outer (hideAll g [b])) : (_root_.MineH.hd.heap_1 w.params).In (hideAll g [b]) := X.keeps B.stays
end
theorem TellB.use {w : World} {k : Nat} {f b : Addr} {vs : List Value} {P : Heap → Prop} {R : Heap → Heap → Value → Prop} {mean : ExcName → Option Value} {mg mb : Str → Option Value} {dp un : Nat} {gd : Option (List Code)} {cn : Str} {cs : Scope} {L a : Addr} {ccd : Value} {cl : List (Str × Addr)}
    {A₀ : Around} {outer : List Env} {base g : Heap} {m : Str → Option Value} {ob : Obj} {news : List (Addr × Obj)} {s : Shared} {Q E : Value → Shared → Prop}
    (C : TellB w k f b vs P R) (B : Below A₀ base outer g) (F : Fr g L s.heap m) (N : News g L s.heap ((b, ob) :: news)) (hne : ∀ p ∈ news, p.1 ≠ b) (XB : (_root_.MineH.hd.heap_1 w.params).In base) (TB : Top _root_.MineH.hd.view_39 (looseW _root_.MineH.hd.view_39 [Str.ofString "BasicError", Str.ofString "PAIRS"]) mean mg mb base) (D : KtsDicts (outer.filterMap (·.frame)) g) (hk : cs.kind = .function)
    (hd : dp + k < recursionLimit) (hu : un + 10 * k < cLine) (hp : P s.heap)
    (ret : ∀ v h' tk' g₁, KtsTurn (outer.filterMap (·.frame)) g g₁ → (∀ a, s.heap.get? a = none → g₁.get? a = none ∧ AllNe a ((b, ob) :: news)) → Fr g₁ L h' m → (∀ ob', h'.get? b = some ob' → News g₁ L h' ((b, ob') :: news)) → Below A₀ base outer g₁ → (_root_.MineH.hd.heap_1 w.params).In g₁ → Top _root_.MineH.hd.view_39 (looseW _root_.MineH.hd.view_39 [Str.ofString "BasicError", Str.ofString "PAIRS"]) mean mg mb g₁ → KtsDicts (outer.filterMap (·.frame)) g₁ → R s.heap h' v → Q v { s with heap := h', toks := tk' }) :
    wpAny (model PySem.Challenge.rw_pq0143_01.prog w) (ctx dp un gd (envX cn cs L a ccd cl :: outer)) (call (.ref f) vs) Q E s := by
  obtain ⟨h, gs, dr, tk, os⟩ := s
  have B' := pushX (env := envX cn cs L a ccd cl) B F rfl hk
  have frames : (envX cn cs L a ccd cl :: outer).filterMap (·.frame) = L :: outer.filterMap (·.frame) := rfl
  have D' : KtsDicts ((envX cn cs L a ccd cl :: outer).filterMap (·.frame)) h := by
    rw [frames]
    intro b hb
    rcases List.mem_cons.mp hb with rfl | hb
    · obtain ⟨oL, es, ep, hL, hd, _⟩ := F.ns
      exact ⟨oL, es, ep, hL, hd⟩
    · obtain ⟨o, es, n, ho, hd⟩ := D b hb
      exact ⟨o, es, n, F.keep _ _ ho, hd⟩
  obtain ⟨nb1, nb2, nb3⟩ := N (b, ob) (.head _)
  have hbF : b ∉ (envX cn cs L a ccd cl :: outer).filterMap (·.frame) := by
    rw [frames]
    intro hm
    rcases List.mem_cons.mp hm with q | hm
    · exact nb2 q
    · obtain ⟨o, es, n, ho, _⟩ := D _ hm
      dsimp only at nb3
      rw [nb3] at ho; cases ho
  refine C mean mg mb dp un gd _ base h gs dr tk os Q E ⟨rfl, B'.stays, B'.frames⟩ XB TB D' (fresh_of_stays B.stays nb3) hbF hd hu hp fun v h' tk' st r => ?_
  have hLg := kts_self F
  have keepO : ∀ a o, g.get? a = some o → a ∉ outer.filterMap (·.frame) → h'.get? a = some o := fun a o e nm => st.1 a o (F.keep a o e) (by
    rw [frames]
    intro hm
    rcases List.mem_cons.mp hm with rfl | hm
    · rw [hLg] at e; cases e
    · exact nm hm) (fun q => by rw [q] at e; dsimp only at nb3; rw [nb3] at e; cases e)
  obtain ⟨T, S⟩ := kts_turn_at (h := h') (fs := outer.filterMap (·.frame)) (g := g) (fun b hb => by
      obtain ⟨_, o, ho, _⟩ := B.frames.mem hb
      exact ⟨o, ho⟩) keepO (fun b o e hm => st.2 b o (F.keep b o e) (by rw [frames]; exact List.mem_cons_of_mem _ hm))
  have Bg : Below A₀ base outer (ktsHeap h' (outer.filterMap (·.frame)) g) := ⟨B.stack, fun b o e => T.other b o (B.stays b o e) (fun hm => by rw [(B.frames.mem hm).1] at e; cases e), B.frames.of_keeps fun b o e _ => by
    obtain ⟨sl, hs⟩ := T.up e
    exact ⟨_, hs, rfl⟩⟩
  refine ret v h' tk' _ T (fun a ha => ⟨T.none_ a (kts_none F.keep ha), allNe_of fun p hp q => by
    have := N.get hp; rw [q, ha] at this; cases this⟩) ⟨?_, S, by rw [T.size]; exact F.above⟩ (fun ob' hob' p hp => ?_) Bg (XB.keeps Bg.stays) (TB.keeps Bg.stays) (D.turn T) r
  · obtain ⟨oL, es, ep, hL, hd, q⟩ := F.ns
    obtain ⟨sl, hs⟩ := st.2 L oL hL (by rw [frames]; exact List.mem_cons_self)
    exact ⟨_, es, ep, hs, hd, q⟩
  · rcases List.mem_cons.mp hp with rfl | hp
    · exact ⟨hob', nb2, T.none_ _ nb3⟩
    obtain ⟨n1, n2, n3⟩ := N p (.tail _ hp)
    refine ⟨st.1 _ _ n1 (by
      rw [frames]
      intro hm
      rcases List.mem_cons.mp hm with q | hm
      · exact n2 q
      · obtain ⟨o, es, n, ho, hd⟩ := D _ hm
        rw [n3] at ho; cases ho) (hne p hp), n2, T.none_ _ n3⟩
/-- a call that changes the object b alone -/
def TellC (w : World) (k : Nat) (f b : Addr) (vs : List Value) (P : Heap → Prop) (R : Heap → Heap → Value → Prop) : Prop :=
  ∀ (mean : ExcName → Option Value) (mg mb : Str → Option Value) (dp un : Nat) (gd : Option (List Code)) (l : List Env) (base g : Heap) (gs : Array GenState) (dr : Drawn) (tk : Nat) (os : OsState) (Q E : Value → Shared → Prop),
    Below (ctx dp un gd l) base l g → (_root_.MineH.hd.heap_1 w.params).In base → Top _root_.MineH.hd.view_39 (looseW _root_.MineH.hd.view_39 [Str.ofString "BasicError", Str.ofString "PAIRS"]) mean mg mb base → base.get? b = none → b ∉ l.filterMap (·.frame) → dp + k < recursionLimit → un + 10 * k < cLine → P g →
    (∀ v h' tk', (∀ a o, g.get? a = some o → a ≠ b → h'.get? a = some o) → R g h' v → Q v ⟨h', gs, dr, tk', os⟩) →
    wpAny (model PySem.Challenge.rw_pq0143_01.prog w) (ctx dp un gd l) (call (.ref f) vs) Q E ⟨g, gs, dr, tk, os⟩
theorem staysC_of {b : Addr} {g h' : Heap} (k : ∀ a o, (hideAll g [b]).get? a = some o → h'.get? a = some o) : ∀ a o, g.get? a = some o → a ≠ b → h'.get? a = some o := fun a o e ne => k a o (hideAll_get _ e (by simpa using ne))
theorem TellC.use {w : World} {k : Nat} {f b : Addr} {vs : List Value} {P : Heap → Prop} {R : Heap → Heap → Value → Prop} {mean : ExcName → Option Value} {mg mb : Str → Option Value} {dp un : Nat} {gd : Option (List Code)} {cn : Str} {cs : Scope} {L a : Addr} {ccd : Value} {cl : List (Str × Addr)}
    {A₀ : Around} {outer : List Env} {base g : Heap} {m : Str → Option Value} {ob : Obj} {s : Shared} {Q E : Value → Shared → Prop}
    (C : TellC w k f b vs P R) (B : Below A₀ base outer g) (F : Fr g L s.heap m) {all : List (Addr × Obj)} (N : News g L s.heap all) (hm : (b, ob) ∈ all) (XB : (_root_.MineH.hd.heap_1 w.params).In base) (TB : Top _root_.MineH.hd.view_39 (looseW _root_.MineH.hd.view_39 [Str.ofString "BasicError", Str.ofString "PAIRS"]) mean mg mb base) (hk : cs.kind = .function)
    (hd : dp + k < recursionLimit) (hu : un + 10 * k < cLine) (hp : P s.heap) 
    (ret : ∀ v h' tk', (∀ a, s.heap.get? a = none → g.get? a = none ∧ AllNe a all) → Fr g L h' m → (∀ ob' all', h'.get? b = some ob' → Upd b ob ob' all all' → News g L h' all') → R s.heap h' v → Q v { s with heap := h', toks := tk' }) :
    wpAny (model PySem.Challenge.rw_pq0143_01.prog w) (ctx dp un gd (envX cn cs L a ccd cl :: outer)) (call (.ref f) vs) Q E s := by
  obtain ⟨h, gs, dr, tk, os⟩ := s
  have B' := pushX (env := envX cn cs L a ccd cl) B F rfl hk
  have frames : (envX cn cs L a ccd cl :: outer).filterMap (·.frame) = L :: outer.filterMap (·.frame) := rfl
  obtain ⟨nb1, nb2, nb3⟩ := N (b, ob) hm
  dsimp only at nb1 nb2 nb3
  have hbF : b ∉ (envX cn cs L a ccd cl :: outer).filterMap (·.frame) := by
    rw [frames]
    intro hm
    rcases List.mem_cons.mp hm with q | hm
    · exact nb2 q
    · obtain ⟨_, o, ho, _⟩ := B.frames.mem hm
      rw [nb3] at ho; cases ho
  refine C mean mg mb dp un gd _ base h gs dr tk os Q E ⟨rfl, B'.stays, B'.frames⟩ XB TB (fresh_of_stays B.stays nb3) hbF hd hu hp fun v h' tk' st r => ?_
  refine ret v h' tk' (fun a ha => ⟨kts_none F.keep ha, allNe_of fun p hp q => by
    have := N.get hp; rw [q, ha] at this; cases this⟩) ⟨?_, fun a o e => st a o (F.keep a o e) (fun q => by rw [q, nb3] at e; cases e), F.above⟩ (fun ob' all' hob' U p hp => ?_) r
  · obtain ⟨oL, es, ep, hL, hd, q⟩ := F.ns
    exact ⟨oL, es, ep, st _ _ hL (fun q => nb2 q.symm), hd, q⟩
  · obtain ⟨pre, post, rfl, rfl, n1, n2⟩ := U.split
    rcases List.mem_append.mp hp with hp | hp
    · obtain ⟨m1, m2, m3⟩ := N p (List.mem_append_left _ hp)
      exact ⟨st _ _ m1 (n1 p hp), m2, m3⟩
    · rcases List.mem_cons.mp hp with rfl | hp
      · exact ⟨hob', nb2, nb3⟩
      · obtain ⟨m1, m2, m3⟩ := N p (List.mem_append_right _ (.tail _ hp))
        exact ⟨st _ _ m1 (n2 p hp), m2, m3⟩
end Mine
/-! T23 -/
namespace Mine
theorem start_T23 : True := by
  w_top off
  trivial
def SL (g : Heap) (sl : Addr) (ns : List Int) : Prop := ∃ vs : List Value, g.IsList sl vs.toArray ∧ IntsAre vs ns
def BinAt (g : Heap) (b sl : Addr) (k s : Int) : Prop := ∃ tk ts n, g.get? b = some { cls := .type "list", data := .seq #[.ref sl, .int k tk, .int s ts] n }
theorem hide_list {g : Heap} {b sl : Addr} {vs : Array Value} (h : g.IsList sl vs) (ne : sl ≠ b) : (hideAll g [b]).IsList sl vs := let ⟨o, e, r⟩ := h; ⟨o, hideAll_get _ e (by simpa using ne), r⟩
theorem fmod_in (a : Int) {b : Int} (h : 0 < b) : 0 ≤ a.fmod b ∧ a.fmod b < b := by
  rw [Int.fmod_eq_emod_of_nonneg _ (Int.le_of_lt h)]
  exact ⟨Int.emod_nonneg _ (by omega), Int.emod_lt_of_pos _ h⟩
theorem scoop (w : World) (b sl : Addr) (k s many : Int) (ns : List Int) (tm : Tok) (hk : 0 ≤ k ∧ k ≤ 100) (hs : 0 ≤ s ∧ s ≤ 100) (hm : 0 < many ∧ many ≤ 100) (hns : ns.length ≤ 100) :
    TellC w 20 270 b [.ref b, .int many tm] (fun g => BinAt g b sl k s ∧ SL g sl ns ∧ sl ≠ b) (fun _ h' v => BinAt h' b sl (k + 1) s ∧ ∃ z t, v = .int z t ∧ 0 ≤ z ∧ z < many) := by
  unfold TellC
  intro mean mg mb dp un gd l base g gs dr tk os Q E B XB TB hb hbF hd' hu hP ret
  revert XB; k_fill; intro XB
  have cLi := cLine_is
  have reci : recursionLimit = 1000 := rfl
  refine wpAny_call ?_
  k_dflt (refine' enterP (l0 := [("many", _), ("bin_now", _)]) ?k1 ?k2 ?k3 ?k6 ?k7 ?k8 ?k9 ?kl ?kB ?_ ?c2 ?c3 ?c4 ?c5; (case k1 => exact B); (case k2 => exact XB); (case k3 => exact TB); (case k6 => k_is); (case k7 => k_is); (case k8 => exact roomZ hd'); (case k9 => exact BindsTo.of_eq rfl); (case kl => exact rfl); (case c5 => decide); (case kB => exact locs rfl); (case c2 => exact rfl); (case c3 => exact rfl); (case c4 => exact rfl); k_whole)
  intro L' h' tk0 F' N' X T
  dsimp only
  k_fold
  obtain ⟨⟨tk1, ts1, n1, hg⟩, ⟨vs, hl, hi⟩, hne⟩ := hP
  have F1 := hide_fr (b := b) F'; have N1 := hide_news F' N' hg; have B1 := hide_below B hb hbF; have X1 := XB.keeps B1.stays; have T1 := TB.keeps B1.stays; clear F' N' B X T
  have hl1 := hide_list hl hne
  clear hl
  (k_with_none; (k_with "ne" => (first | exact ne_gt (by with_reducible assumption) | exact ne_lt (by with_reducible assumption) | with_reducible assumption | exact Ne.symm (by with_reducible assumption) | exact ne_gt (And.left (by with_reducible assumption)) | exact ne_gt (And.left (And.right (by with_reducible assumption))) | exact ne_gt (And.right (by with_reducible assumption)) | exact ne_gt (And.right (And.right (by with_reducible assumption))) | exact ne_lt (And.left (by with_reducible assumption)) | exact ne_lt (And.left (And.right (by with_reducible assumption))) | exact ne_lt (And.right (by with_reducible assumption)) | exact ne_lt (And.right (And.right (by with_reducible assumption))))); k_steps)
  all_goals (
    ((try k_unfold); (try dsimp only [qk]); unfold LeaveP; dsimp only)
    refine ret _ _ _ (staysC_of (Fr.keep (by k_asm))) ⟨⟨_, _, _, News.get (by k_asm) (.head _)⟩, _, _, rfl, fmod_in _ hm.1⟩)
section
variable {w : World} {k : Nat} {f b sl : Addr} {vs : List Value} {P : Heap → Prop} {mean : ExcName → Option Value} {mg mb : Str → Option Value} {dp un : Nat} {gd : Option (List Code)} {cn : Str} {cs : Scope} {L a : Addr} {ccd : Value} {cl : List (Str × Addr)}
  {A₀ : Around} {outer : List Env} {base g h : Heap} {m : Str → Option Value} {ob : Obj} {all : List (Addr × Obj)} {gs : Array GenState} {dr : Drawn} {tk : Nat} {os : OsState} {Q E : Value → Shared → Prop}
abbrev binObj (sl : Addr) (k s : Int) (tb ts : Tok) (nb : Nat) : Obj := { cls := .type "list", data := .seq #[.ref sl, .int k tb, .int s ts] nb }
/-- a draw: the bin's place moves on -/
theorem TellC.useI {k1 s many : Int} {all' : Tok → Tok → Nat → List (Addr × Obj)} (C : TellC w k f b vs P (fun _ h' v => BinAt h' b sl k1 s ∧ ∃ z t, v = .int z t ∧ 0 ≤ z ∧ z < many))
    (B : Below A₀ base outer g) (F : Fr g L h m) (N : News g L h all) (hm : (b, ob) ∈ all) (XB : (_root_.MineH.hd.heap_1 w.params).In base) (TB : Top _root_.MineH.hd.view_39 (looseW _root_.MineH.hd.view_39 [Str.ofString "BasicError", Str.ofString "PAIRS"]) mean mg mb base) (hk : cs.kind = .function) (hd : dp + k < recursionLimit) (hu : un + 10 * k < cLine) (hp : P h)
    (U : ∀ tb ts nb, Upd b ob (binObj sl k1 s tb ts nb) all (all' tb ts nb))
    (ret : ∀ h' tk' z t tb ts nb, 0 ≤ z → z < many → Fr g L h' m → News g L h' (all' tb ts nb) → Q (.int z t) ⟨h', gs, dr, tk', os⟩) :
    CHold (wpAny (model PySem.Challenge.rw_pq0143_01.prog w) (ctx dp un gd (envX cn cs L a ccd cl :: outer)) (call (.ref f) vs) Q E ⟨h, gs, dr, tk, os⟩) :=
  mkC <| TellC.use C B F N hm XB TB hk hd hu hp fun v h' tk' u F' N' r => by
    obtain ⟨⟨tb, ts, nb, e⟩, z, t, rfl, lo, hi⟩ := r
    exact ret h' tk' z t tb ts nb lo hi F' (N' _ _ e (U tb ts nb))
end
end Mine
/-! T24 -/
namespace Mine
theorem start_T24 : True := by
  w_top off
  trivial
theorem SL.up {g h : Heap} {L sl : Addr} {m : Str → Option Value} {ns : List Int} (F : Fr g L h m) (S : SL g sl ns) : SL h sl ns := let ⟨vs, ⟨o, e, r⟩, i⟩ := S; ⟨vs, ⟨o, F.keep _ _ e, r⟩, i⟩
theorem SL.hide {g : Heap} {b sl : Addr} {ns : List Int} (ne : sl ≠ b) (S : SL g sl ns) : SL (hideAll g [b]) sl ns := let ⟨vs, l, i⟩ := S; ⟨vs, hide_list l ne, i⟩
theorem news_sub {g h : Heap} {L : Addr} {all small : List (Addr × Obj)} (N : News g L h all) (S : SubL small all) : News g L h small := fun p hp => N p (S.mem p hp)
def FHold (P : Prop) : Prop := P
theorem holdF' {P : Prop} (h : FHold P) : P := h
local macro_rules | `(tactic| walk_at "pyIter ref") => `(tactic| refine holdF' ?_)




/-- a list of these texts -/
def StrList (so : Obj) (ws : List Str) : Prop := ∃ (vs : List Value) (n : Nat), so = W.listOf vs.toArray n ∧ StrsAre vs ws
theorem item_strs {prog : Program} {w : World} {A : Around} {E : Value → Shared → Prop} {g : Heap} {L lst : Addr} {value slice : PySem.Expr} {all : List (Addr × Obj)} {so : Obj} {ws : List Str} {k : Int} {u : Tok} {Q : Value → Shared → Prop} {s : Shared}
    (N : News g L s.heap all) (hm : (lst, so) ∈ all) (S : StrList so ws) (h0 : 0 ≤ k) {j : Int} (h1 : k < j) (h2 : j = (ws.length : Int) ∧ ws.length ≤ 100 ∧ ∀ x ∈ ws, x.length ≤ 10) (h : ∀ x t, x ∈ ws → x.length ≤ 10 → Q (.str x t) s)
    (hs : subscripted slice false (.ref lst) (.int k u) = operate [.ref lst, .int k u] (getItem (.ref lst) (.int k u)) := by with_unfolding_all rfl) :
    wpAny (model prog w) A (subscriptTail value slice (.ref lst) (.int k u)) Q E s := by
  obtain ⟨vs, n, rfl, hw⟩ := S
  have hl : s.heap.IsList lst vs.toArray := ⟨_, (N _ hm).1, rfl, n, rfl⟩
  have hlt : k.toNat < ws.length := by omega
  obtain ⟨t', e⟩ := hw.get k.toNat (ws[k.toNat]) (by simp [hlt])
  have hmem := List.getElem_mem hlt
  exact tail_any hl.typeIs slot_list_getitem.lookup (wpAny_getItem_list hl h0 (by omega) (x := .str _ t') (by simpa using e) (h _ t' hmem (h2.2.2 _ hmem))) hs
def RowOk (row : Str) (i : Nat) : Prop := (∀ bad t, Tail bad t → Tail bad (row.cps.toList ++ t)) ∧ Low row ∧ row.length ≤ 7 * i
def words9 : List Str := ["PRINT", "A$", "12", "\"{'\"", "<=", "(", ":", "X1%", ".5"]
theorem str_app (x y : Str) : (x ++ y).cps.toList = x.cps.toList ++ y.cps.toList := Array.toList_append
theorem RowOk.zero : RowOk "" 0 := ⟨fun bad t h => h, fun c hc => (by cases hc), Nat.le_refl _⟩
theorem words_ok (x : Str) (hx : x ∈ words9) : x.cps.toList ∈ pieces ∧ (∀ c ∈ x.cps.toList, ¬ (97 ≤ c ∧ c ≤ 122)) ∧ x.length ≤ 5 := by
  simp only [words9, List.mem_cons, List.not_mem_nil, or_false] at hx
  rcases hx with rfl | rfl | rfl | rfl | rfl | rfl | rfl | rfl | rfl <;> decide +kernel
theorem RowOk.step {row x y : Str} {i : Nat} (H : RowOk row i) (hx : x ∈ words9) (hy : y ∈ [(" " : Str), "  "]) : RowOk (row ++ x ++ y) (i + 1) := by
  obtain ⟨h1, h2, h3⟩ := H
  obtain ⟨p1, p2, p3⟩ := words_ok x hx
  have hyk : ∃ j, y.cps.toList = 32 :: List.replicate j 32 ∧ y.length = j + 1 ∧ j ≤ 1 := by
    simp only [List.mem_cons, List.not_mem_nil, or_false] at hy
    rcases hy with rfl | rfl
    · exact ⟨0, by decide +kernel, by decide +kernel, by decide⟩
    · exact ⟨1, by decide +kernel, by decide +kernel, by decide⟩
  obtain ⟨j, y1, y2, y3⟩ := hyk
  refine ⟨fun bad t ht => ?_, fun c hc => ?_, ?_⟩
  · rw [str_app, str_app, y1, List.append_assoc, List.append_assoc]
    exact h1 bad _ (.piece j p1 ht)
  · rw [str_app, str_app, y1, List.mem_append, List.mem_append] at hc
    rcases hc with (hc | hc) | hc
    · exact h2 c hc
    · exact p2 c hc
    · have : c = 32 := by
        rcases List.mem_cons.mp hc with hc | hc
        · exact hc
        · exact (List.mem_replicate.mp hc).2
      omega
  · rw [len_app, len_app]; omega
theorem small_range {z : Int} (h0 : 0 ≤ z) (h1 : z < 100) : Builtin.Range.small 0 z 1 = true := by
  exact PySem.small_one (by decide) (by decide) (by omega) (by omega)


theorem bads_small {x : List Nat} {fin : Option (Str × Nat)} (h : (x, fin) ∈ bads) : x.length ≤ 60 ∧ ∀ c ∈ x, ¬ (97 ≤ c ∧ c ≤ 122) := by
  have all : ∀ p ∈ bads, p.1.length ≤ 60 ∧ ∀ c ∈ p.1, ¬ (97 ≤ c ∧ c ≤ 122) := by decide +kernel
  exact all _ h
theorem RowOk.ends {row x : Str} {i : Nat} {fin : Option (Str × Nat)} (H : RowOk row i) (hi : i ≤ 5) (h : (x.cps.toList, fin) ∈ bads) : (row ++ x).length ≤ 255 ∧ Low (row ++ x) ∧ Tail x.cps.toList (row ++ x).cps.toList := by
  obtain ⟨h1, h2, h3⟩ := H
  obtain ⟨b1, b2⟩ := bads_small h
  rw [row_len] at b1
  refine ⟨by rw [len_app]; omega, fun c hc => ?_, ?_⟩
  · rw [str_app, List.mem_append] at hc
    exact hc.elim (h2 c) (b2 c)
  · rw [str_app]; exact h1 _ _ .bad
theorem bads_code {x : List Nat} {c : Str} {o : Nat} (h : (x, some (c, o)) ∈ bads) : c = "SN" ∨ c = "OV" := by
  have all : ∀ p ∈ bads, p.2 = none ∨ p.2.map (·.1) = some ("SN" : Str) ∨ p.2.map (·.1) = some ("OV" : Str) := by decide +kernel
  have := all _ h
  simpa using this
@[irreducible] def LHold (P : Prop) : Prop := P
theorem holdL {P : Prop} (h : LHold P) : P := by unfold LHold at h; exact h
theorem mkL {P : Prop} (h : P) : LHold P := by unfold LHold; exact h
abbrev tup0 (l : List Value) : Obj := { cls := .type "tuple", data := .seq l.toArray }
/-- each of these values is an end and what is due of it, written in led -/
def EndVals (n : Nat) (led : List (Addr × Obj)) (vs : List Value) : Prop := ∀ v ∈ vs, ∃ (D : Addr) (x : Str) (tx : Tok), v = .ref D ∧ (((D, tup0 [.str x tx, .none]) ∈ led ∧ (x.cps.toList, none) ∈ bads) ∨
  ∃ (dd : Addr) (c : Str) (tc : Tok) (z : Int) (tz : Tok) (o : Nat), (D, tup0 [.str x tx, .ref dd]) ∈ led ∧ (dd, tup0 [.str c tc, .int z tz]) ∈ led ∧ (x.cps.toList, some (c, o)) ∈ bads ∧ z = (n : Int) + ((o : Nat) : Int))
theorem EndVals.mono {n : Nat} {led led' : List (Addr × Obj)} {vs : List Value} (H : EndVals n led vs) (S : ∀ p ∈ led, p ∈ led') : EndVals n led' vs := fun v hv => by
  obtain ⟨D, x, tx, e, ⟨h1, h2⟩ | ⟨dd, c, tc, z, tz, o, h1, h2, h3⟩⟩ := H v hv
  · exact ⟨D, x, tx, e, .inl ⟨S _ h1, h2⟩⟩
  · exact ⟨D, x, tx, e, .inr ⟨dd, c, tc, z, tz, o, S _ h1, S _ h2, h3⟩⟩
theorem EndVals.nil {n : Nat} {led : List (Addr × Obj)} : EndVals n led [] := fun _ h => nomatch h
section
variable {M : Model} {A : Around} {E : Value → Shared → Prop} {g h : Heap} {L b : Addr} {m : Str → Option Value} {gs : Array GenState} {dr : Drawn} {tk : Nat} {os : OsState} {ob : Obj} {extra : List (Addr × Obj)} {acc : List Value} {Q : Value → Shared → Prop} {n : Nat} {x : Str} {tx : Tok}
theorem foldEnd0 (F : Fr g L h m) (N : News g L h ((b, ob) :: extra)) (hx : (x.cps.toList, none) ∈ bads) (hb : ∀ p ∈ extra, p.1 ≠ b) (hA : EndVals n extra acc)
    (ret : ∀ D h' tk' extra', Fr g L h' m → News g L h' ((b, ob) :: extra') → (∀ p ∈ extra', p.1 ≠ b) → EndVals n extra' (.ref D :: acc) → Q (.ref D) ⟨h', gs, dr, tk', os⟩) :
    LHold (wpAny M A (newTuple [.str x tx, .none]) Q E ⟨h, gs, dr, tk, os⟩) :=
  mkL <| kup_newTuple F N (fun D h' F' N' hlt => by
    refine ret D h' tk ((D, tup0 [.str x tx, .none]) :: extra) F' (fun p hp => ?_) (fun p hp => ?_) (fun v hv => ?_)
    · rcases List.mem_cons.mp hp with rfl | hp
      · exact N' _ (.tail _ (.head _))
      · rcases List.mem_cons.mp hp with rfl | hp
        · exact N' _ (.head _)
        · exact N' _ (.tail _ (.tail _ hp))
    · rcases List.mem_cons.mp hp with rfl | hp
      · exact fun e => Nat.lt_irrefl _ (e ▸ hlt (b, ob) (.head _))
      · exact hb _ hp
    · rcases List.mem_cons.mp hv with rfl | hv
      · exact ⟨D, x, tx, rfl, .inl ⟨.head _, hx⟩⟩
      · exact hA.mono (fun p hp => .tail _ hp) v hv) (show 2 ≤ sizeLine by decide)
theorem foldEnd1 {dd : Addr} {c : Str} {tc : Tok} {z : Int} {tz : Tok} {o : Nat} (F : Fr g L h m) (N : News g L h ((dd, tup0 [.str c tc, .int z tz]) :: (b, ob) :: extra)) (hd : dd ≠ b) (hx : (x.cps.toList, some (c, o)) ∈ bads) (hz : z = (n : Int) + ((o : Nat) : Int)) (hb : ∀ p ∈ extra, p.1 ≠ b) (hA : EndVals n extra acc)
    (ret : ∀ D h' tk' extra', Fr g L h' m → News g L h' ((b, ob) :: extra') → (∀ p ∈ extra', p.1 ≠ b) → EndVals n extra' (.ref D :: acc) → Q (.ref D) ⟨h', gs, dr, tk', os⟩) :
    LHold (wpAny M A (newTuple [.str x tx, .ref dd]) Q E ⟨h, gs, dr, tk, os⟩) :=
  mkL <| kup_newTuple F N (fun D h' F' N' hlt => by
    refine ret D h' tk ((D, tup0 [.str x tx, .ref dd]) :: (dd, tup0 [.str c tc, .int z tz]) :: extra) F' (fun p hp => ?_) (fun p hp => ?_) (fun v hv => ?_)
    · rcases List.mem_cons.mp hp with rfl | hp
      · exact N' _ (.tail _ (.tail _ (.head _)))
      · rcases List.mem_cons.mp hp with rfl | hp
        · exact N' _ (.head _)
        · rcases List.mem_cons.mp hp with rfl | hp
          · exact N' _ (.tail _ (.head _))
          · exact N' _ (.tail _ (.tail _ (.tail _ hp)))
    · rcases List.mem_cons.mp hp with rfl | hp
      · exact fun e => Nat.lt_irrefl _ (e ▸ hlt (b, ob) (.tail _ (.head _)))
      · rcases List.mem_cons.mp hp with rfl | hp
        · exact hd
        · exact hb _ hp
    · rcases List.mem_cons.mp hv with rfl | hv
      · exact ⟨D, x, tx, rfl, .inr ⟨dd, c, tc, z, tz, o, .head _, .tail _ (.head _), hx, hz⟩⟩
      · exact hA.mono (fun p hp => .tail _ (.tail _ hp)) v hv) (show 2 ≤ sizeLine by decide)
end
theorem item_end {prog : Program} {w : World} {A : Around} {E : Value → Shared → Prop} {g : Heap} {L lst b : Addr} {value slice : PySem.Expr} {led all : List (Addr × Obj)} {ob : Obj} {vs : List Value} {n nl : Nat} {k : Int} {u : Tok} {Q : Value → Shared → Prop} {s : Shared}
    (N : News g L s.heap all) (hm : (lst, W.listOf vs.toArray nl) ∈ all) (hb : (b, ob) ∈ all) (hled : ∀ p ∈ led, p ∈ all) (H : EndVals n led vs.reverse) (h0 : 0 ≤ k) (h1 : k < 12) (hlen : vs.length = 12)
    (hn : ∀ (ad : Addr) (x : Str) (tx : Tok), News g L s.heap [(b, ob), (ad, { cls := .type "tuple", data := .seq #[.str x tx, .none] })] → (x.cps.toList, none) ∈ bads → Q (.ref ad) s)
    (hs1 : ∀ (ad dd : Addr) (x : Str) (tx : Tok) (c : Str) (tc tz : Tok) (o : Nat), News g L s.heap [(b, ob), (ad, { cls := .type "tuple", data := .seq #[.str x tx, .ref dd] }), (dd, { cls := .type "tuple", data := .seq #[.str c tc, .int ((n : Int) + ((o : Nat) : Int)) tz] })] → (x.cps.toList, some (c, o)) ∈ bads → Q (.ref ad) s)
    (hs : subscripted slice false (.ref lst) (.int k u) = operate [.ref lst, .int k u] (getItem (.ref lst) (.int k u)) := by with_unfolding_all rfl) :
    wpAny (model prog w) A (subscriptTail value slice (.ref lst) (.int k u)) Q E s := by
  have hlt : k.toNat < vs.length := by omega
  have hv : vs[k.toNat]? = some vs[k.toNat] := by simp [hlt]
  have hl : s.heap.IsList lst vs.toArray := ⟨_, (N _ hm).1, rfl, nl, rfl⟩
  refine tail_any hl.typeIs slot_list_getitem.lookup (wpAny_getItem_list hl h0 (by omega) (x := vs[k.toNat]) (by simpa using hv) ?_) hs
  obtain ⟨D, x, tx, e, ⟨m1, m2⟩ | ⟨dd, c, tc, z, tz, o, m1, m2, m3, rfl⟩⟩ := H vs[k.toNat] (List.mem_reverse.mpr (List.getElem_mem hlt))
  · rw [e]; exact hn D x tx (news_sub N ⟨hb, hled _ m1, trivial⟩) m2
  · rw [e]; exact hs1 D dd x tx c tc tz o (news_sub N ⟨hb, hled _ m1, hled _ m2, trivial⟩) m3
theorem bin_in {k k' : Int} {i : Nat} (hk : 0 ≤ k ∧ k ≤ 50) (h1 : k + 1 ≤ k') (h2 : k' ≤ k + 1 + 2 * i) (hi : i ≤ 5) : (0 ≤ k' ∧ k' ≤ 100) ∧ (0 ≤ k' + 1 ∧ k' + 1 ≤ 100) := by omega
theorem bin_out {k k' : Int} {i : Nat} (h1 : k + 1 ≤ k') (h2 : k' ≤ k + 1 + 2 * i) (hi : i ≤ 5) : k ≤ k' + 1 ∧ k' + 1 ≤ k + 20 := by omega
theorem row35 {r i : Nat} (h : r ≤ 7 * i) (hi : i ≤ 5) : r ≤ 35 := Nat.le_trans h (Nat.mul_le_mul_left 7 hi)

theorem rowRight (w : World) (b sl : Addr) (k s : Int) (ns : List Int) (hk : 0 ≤ k ∧ k ≤ 50) (hs : 0 ≤ s ∧ s ≤ 100) (hns : ns.length ≤ 100) :
    TellB w 100 284 b [.ref b] (fun g => BinAt g b sl k s ∧ SL g sl ns ∧ sl ≠ b) (fun _ h' v => (∃ k', k ≤ k' ∧ k' ≤ k + 20 ∧ BinAt h' b sl k' s) ∧ v = .bool true) := by
  unfold TellB
  intro mean mg mb dp un gd l base g gs dr tk os Q E B XB TB D hb hbF hd' hu hP ret
  revert XB; k_fill; intro XB
  have cLi := cLine_is
  have reci : recursionLimit = 1000 := rfl
  refine wpAny_call ?_
  k_dflt (refine' enterP (l0 := [("bin_now", _)]) ?k1 ?k2 ?k3 ?k6 ?k7 ?k8 ?k9 ?kl ?kB ?_ ?c2 ?c3 ?c4 ?c5; (case k1 => exact B); (case k2 => exact XB); (case k3 => exact TB); (case k6 => k_is); (case k7 => k_is); (case k8 => exact roomZ hd'); (case k9 => exact BindsTo.of_eq rfl); (case kl => exact rfl); (case c5 => decide); (case kB => exact locs rfl); (case c2 => exact rfl); (case c3 => exact rfl); (case c4 => exact rfl); k_whole)
  intro L' h' tk0 F' N' X T
  dsimp only
  k_fold
  obtain ⟨⟨tk1, ts1, n1, hg⟩, hS, hne⟩ := hP
  have F1 := hide_fr (b := b) F'; have N1 := hide_news F' N' hg; have B1 := hide_below B hb hbF; have D1 := hide_dicts D hbF; have X1 := XB.keeps B1.stays; have T1 := TB.keeps B1.stays; clear F' N' B X T D
  have hS1 := hS.hide hne
  clear hS
  (k_with_none; (k_with "ne" => (first | exact ne_gt (by with_reducible assumption) | exact ne_lt (by with_reducible assumption) | with_reducible assumption | exact Ne.symm (by with_reducible assumption) | exact ne_gt (And.left (by with_reducible assumption)) | exact ne_gt (And.left (And.right (by with_reducible assumption))) | exact ne_gt (And.right (by with_reducible assumption)) | exact ne_gt (And.right (And.right (by with_reducible assumption))) | exact ne_lt (And.left (by with_reducible assumption)) | exact ne_lt (And.left (And.right (by with_reducible assumption))) | exact ne_lt (And.right (by with_reducible assumption)) | exact ne_lt (And.right (And.right (by with_reducible assumption))))); (k_with "exec For Name Call cons nil" => ((rename Fr _ _ _ _ => lF9); (with_unfolding_all refine' For_invVF lF9 ?k1Kw ?k2Kw ?_); (case k1Kw => exact rfl); (case k2Kw => exact rfl); k_whole)); (k_with "call ref" => refine hold277 ?_); (k_with "call ref" => refine hold270 ?_); (k_with "subscriptTail" => refine holdF' ?_); (k_with "subscriptTail" => ((k_dflt (refine' item_strs ?NKw ?hmKw ?SKw ?aKw ?bKw ?cKw ?_; (case NKw => k_asm); (case hmKw => k_mem); (case SKw => first | assumption | exact ⟨_, _, rfl, by kde_strs⟩); (case aKw => assumption); (case bKw => assumption); (case cKw => exact ⟨by decide, by decide, by decide +kernel⟩); k_whole)); intro x9 t9 m9 n9)); (k_with "newTuple" => refine holdL ?_); k_steps; repeat' ((first | (k_dflt (refine' TellC.useI (scoop _ _ _ _ _ _ _ _ ?q1 ?q2 ?q3 ?q4) ?B ?F ?N ?hm ?XB ?TB ?hk ?hd ?hu ?hp ?U ?_; (case B => k_asm); (case F => k_asm); (case N => k_asm); (case hm => k_mem); (case XB => k_asm); (case TB => k_asm); (case hk => exact rfl); (case hd => first | exact roomD (by assumption) (by decide) | ((try dsimp only [ctx]); omega)); (case hu => first | exact roomC (by assumption) (by decide) | exact roomU (by assumption) (by decide) | ((try dsimp only [ctx]); omega)); (case hp => first | trivial | assumption | (exact ⟨⟨_, _, _, News.get (by k_asm) (by k_mem)⟩, SL.up (by k_asm) (by assumption), by assumption⟩)); (case U => intro _ _ _; k_upd); (case q1 => first | assumption | omega); (case q2 => first | assumption | omega); (case q3 => decide); (case q4 => assumption); k_whole); intro h9 tk9 z9 t9 tb9 ts9 nb9 lo9 hi9 F9 N9b; (try k_sweep); (try dsimp only)) | (k_dflt (refine' TellT.useP (tokSome _ _ _ _ _ _ _ ?q1 ?q2 ?q3 ?q4) ?B ?F ?N ?XB ?TB ?D ?hk ?hd ?hu ?hp ?_; (case B => k_asm); (case F => k_asm); (case N => k_asm); (case XB => k_asm); (case TB => k_asm); (case D => k_asm); (case hk => exact rfl); (case hd => first | exact roomD (by assumption) (by decide) | ((try dsimp only [ctx]); omega)); (case hu => first | exact roomC (by assumption) (by decide) | exact roomU (by assumption) (by decide) | ((try dsimp only [ctx]); omega)); (case hp => first | trivial | assumption); (case q3 => assumption); (case q1 => assumption); (case q2 => assumption); (case q4 => assumption); k_whole); intro h9 tk9 g9 a9 c9 t9 T9 F9 N9b q9 B9 X9 TT9 D9; (dsimp only [AllNe] at q9); (try k_sweep); (try dsimp only)) | (k_dflt (refine' TellT.useV (tokNone _ _ _ _ _ ?q1 ?q2 ?q3 ?q4) ?B ?F ?N ?XB ?TB ?D ?hk ?hd ?hu ?hp ?_; (case B => k_asm); (case F => k_asm); (case N => k_asm); (case XB => k_asm); (case TB => k_asm); (case D => k_asm); (case hk => exact rfl); (case hd => first | exact roomD (by assumption) (by decide) | ((try dsimp only [ctx]); omega)); (case hu => first | exact roomC (by assumption) (by decide) | exact roomU (by assumption) (by decide) | ((try dsimp only [ctx]); omega)); (case hp => first | trivial | assumption); (case q3 => assumption); (case q1 => assumption); (case q2 => assumption); (case q4 => assumption); k_whole); intro h9 tk9 g9 T9 F9 N9 B9 X9 TT9 D9; (try k_sweep); (try dsimp only))); k_steps))
  unfold FHold
  rename Fr _ _ _ _ => F0
  rename News _ _ _ _ => N0
  rename IsRange _ _ _ _ _ _ _ _ => R0
  rename 0 ≤ _ => z0
  rename (_ : Int) < 6 => z6
  have F1 := Fr_eq (Fr_eq F0 (loc_set2 _ _ _ _ _)) (told_none (t := "turn") _ rfl)
  refine' (fun (key : ∀ (lst : Addr) (so : Obj), StrList so words9 → Fr (hideAll g [b]) L' _ (fun (y : Str) => if y = ("turn" : Str) then none else List.lookup y [(("bin_now" : Str), Value.ref b), (("some" : Str), Value.ref lst), (("row" : Str), Value.str "" _)]) → News (hideAll g [b]) L' _ [(lst, so), (b, _)] → @LT.lt Nat _ b lst → _) => key _ _ ?hs F1 N0 (by assumption)) ?_
  case hs => exact ⟨_, _, rfl, by unfold words9; kde_strs⟩
  clear F0 F1 N0
  have hz5 : (z9 - 0).toNat ≤ 5 := by omega
  have hsm := small_range z0 (by omega)
  intro lst so hso F1 N1 hbl
  refine kpr_invN (fun i m nx => ∃ (k' : Int) (tb ts : Tok) (nb : Nat) (row : Str) (tr : Tok) (u : Option Value), nx = [(lst, so), (b, { cls := .type "list", data := .seq #[.ref sl, .int k' tb, .int s ts] nb })] ∧ k + 1 ≤ k' ∧ k' ≤ k + 1 + 2 * i ∧
    m = (fun (y : Str) => if y = ("turn" : Str) then u else List.lookup y [(("bin_now" : Str), Value.ref b), (("some" : Str), Value.ref lst), (("row" : Str), Value.str row tr)]) ∧ RowOk row i) rfl R0 hsm (rangeSize_nat _ _) F1 N1 ⟨_, _, _, _, _, _, _, rfl, by omega, by omega, rfl, .zero⟩ ?turn ?done
  case turn =>
    rintro i k1 t m nx h tk own hk' hoff ⟨k', tb, ts, nb, row, tr, u, rfl, hk1, hk2, rfl, hrow⟩ F2 N2
    have hi := (List.getElem?_eq_some_iff.mp hk').1
    rw [rangeKs_length] at hi
    have F3 := Fr_eq F2 (told_told _ _ _)
    clear F2 F1 N1
    have hown : ∀ p ∈ own, p.1 ≠ b := fun p hp => hoff p hp b (.tail _ (.head _))
    simp only [List.cons_append, List.nil_append] at N2
    have hi5 := Nat.le_of_lt (Nat.lt_of_lt_of_le hi hz5)
    obtain ⟨hk3, hk4⟩ := bin_in hk hk1 hk2 hi5
    have hr := row35 hrow.2.2 hi5
    (k_steps; repeat' ((first | (k_dflt (refine' TellC.useI (scoop _ _ _ _ _ _ _ _ ?q1 ?q2 ?q3 ?q4) ?B ?F ?N ?hm ?XB ?TB ?hk ?hd ?hu ?hp ?U ?_; (case B => k_asm); (case F => k_asm); (case N => k_asm); (case hm => k_mem); (case XB => k_asm); (case TB => k_asm); (case hk => exact rfl); (case hd => first | exact roomD (by assumption) (by decide) | ((try dsimp only [ctx]); omega)); (case hu => first | exact roomC (by assumption) (by decide) | exact roomU (by assumption) (by decide) | ((try dsimp only [ctx]); omega)); (case hp => first | trivial | assumption | (exact ⟨⟨_, _, _, News.get (by k_asm) (by k_mem)⟩, SL.up (by k_asm) (by assumption), by assumption⟩)); (case U => intro _ _ _; k_upd); (case q1 => first | assumption | omega); (case q2 => first | assumption | omega); (case q3 => decide); (case q4 => assumption); k_whole); intro h9 tk9 z9 t9 tb9 ts9 nb9 lo9 hi9 F9 N9b; (try k_sweep); (try dsimp only)) | (k_dflt (refine' TellT.useP (tokSome _ _ _ _ _ _ _ ?q1 ?q2 ?q3 ?q4) ?B ?F ?N ?XB ?TB ?D ?hk ?hd ?hu ?hp ?_; (case B => k_asm); (case F => k_asm); (case N => k_asm); (case XB => k_asm); (case TB => k_asm); (case D => k_asm); (case hk => exact rfl); (case hd => first | exact roomD (by assumption) (by decide) | ((try dsimp only [ctx]); omega)); (case hu => first | exact roomC (by assumption) (by decide) | exact roomU (by assumption) (by decide) | ((try dsimp only [ctx]); omega)); (case hp => first | trivial | assumption); (case q3 => assumption); (case q1 => assumption); (case q2 => assumption); (case q4 => assumption); k_whole); intro h9 tk9 g9 a9 c9 t9 T9 F9 N9b q9 B9 X9 TT9 D9; (dsimp only [AllNe] at q9); (try k_sweep); (try dsimp only)) | (k_dflt (refine' TellT.useV (tokNone _ _ _ _ _ ?q1 ?q2 ?q3 ?q4) ?B ?F ?N ?XB ?TB ?D ?hk ?hd ?hu ?hp ?_; (case B => k_asm); (case F => k_asm); (case N => k_asm); (case XB => k_asm); (case TB => k_asm); (case D => k_asm); (case hk => exact rfl); (case hd => first | exact roomD (by assumption) (by decide) | ((try dsimp only [ctx]); omega)); (case hu => first | exact roomC (by assumption) (by decide) | exact roomU (by assumption) (by decide) | ((try dsimp only [ctx]); omega)); (case hp => first | trivial | assumption); (case q3 => assumption); (case q1 => assumption); (case q2 => assumption); (case q4 => assumption); k_whole); intro h9 tk9 g9 T9 F9 N9 B9 X9 TT9 D9; (try k_sweep); (try dsimp only))); k_steps))
    refine' InvEndN.intro (nx := [(lst, so), (b, _)]) (Fr_eq (by k_asm) (told_at (a := "row") (t := "turn") (by decide) _ _ _)) (by k_asm) ⟨_, _, _, _, _, _, some _, ?i0, ?i1, ?i2, ?i3, ?i4⟩ ?ha ?hn ?ho
    case hn =>
      intro p hp
      rcases List.mem_cons.mp hp with rfl | hp
      · k_mem
      · rw [List.mem_singleton.mp hp]; k_mem
    case ho =>
      intro p hp
      repeat (first | exact hp | refine List.Mem.tail _ ?_)
    case i0 => rfl
    case ha => rfl
    case i3 => rfl
    case i1 => omega
    case i2 => omega
    case i4 => exact hrow.step (by assumption) (by assumption)
  case done =>
    rintro m nx h tk ⟨k', tb, ts, nb, row, tr, u, rfl, hk1, hk2, rfl, hrow⟩ F2 N2
    rw [rangeKs_length] at hk2 hrow
    have hk3 := (bin_in hk hk1 hk2 hz5).1
    have hko := bin_out hk1 hk2 hz5
    have hr := row35 hrow.2.2 hz5
    have hr' := Nat.le_trans hr (show 35 ≤ 1000 by decide)
    clear F1 N1
    have N3 := news_sub (small := [(b, _)]) N2 ⟨by k_mem, trivial⟩
    have hb0 : ∀ p ∈ ([] : List (Addr × Obj)), p.1 ≠ b := fun p hp => (nomatch hp)
    have hA0 : EndVals row.length [] [] := EndVals.nil
    clear N2
    (k_steps; repeat' ((first | (k_dflt (refine' TellC.useI (scoop _ _ _ _ _ _ _ _ ?q1 ?q2 ?q3 ?q4) ?B ?F ?N ?hm ?XB ?TB ?hk ?hd ?hu ?hp ?U ?_; (case B => k_asm); (case F => k_asm); (case N => k_asm); (case hm => k_mem); (case XB => k_asm); (case TB => k_asm); (case hk => exact rfl); (case hd => first | exact roomD (by assumption) (by decide) | ((try dsimp only [ctx]); omega)); (case hu => first | exact roomC (by assumption) (by decide) | exact roomU (by assumption) (by decide) | ((try dsimp only [ctx]); omega)); (case hp => first | trivial | assumption | (exact ⟨⟨_, _, _, News.get (by k_asm) (by k_mem)⟩, SL.up (by k_asm) (by assumption), by assumption⟩)); (case U => intro _ _ _; k_upd); (case q1 => first | assumption | omega); (case q2 => first | assumption | omega); (case q3 => decide); (case q4 => assumption); k_whole); intro h9 tk9 z9 t9 tb9 ts9 nb9 lo9 hi9 F9 N9b; (try k_sweep); (try dsimp only)) | (k_dflt (refine' TellT.useP (tokSome _ _ _ _ _ _ _ ?q1 ?q2 ?q3 ?q4) ?B ?F ?N ?XB ?TB ?D ?hk ?hd ?hu ?hp ?_; (case B => k_asm); (case F => k_asm); (case N => k_asm); (case XB => k_asm); (case TB => k_asm); (case D => k_asm); (case hk => exact rfl); (case hd => first | exact roomD (by assumption) (by decide) | ((try dsimp only [ctx]); omega)); (case hu => first | exact roomC (by assumption) (by decide) | exact roomU (by assumption) (by decide) | ((try dsimp only [ctx]); omega)); (case hp => first | trivial | assumption); (case q3 => assumption); (case q1 => assumption); (case q2 => assumption); (case q4 => assumption); k_whole); intro h9 tk9 g9 a9 c9 t9 T9 F9 N9b q9 B9 X9 TT9 D9; (dsimp only [AllNe] at q9); (try k_sweep); (try dsimp only)) | (k_dflt (refine' TellT.useV (tokNone _ _ _ _ _ ?q1 ?q2 ?q3 ?q4) ?B ?F ?N ?XB ?TB ?D ?hk ?hd ?hu ?hp ?_; (case B => k_asm); (case F => k_asm); (case N => k_asm); (case XB => k_asm); (case TB => k_asm); (case D => k_asm); (case hk => exact rfl); (case hd => first | exact roomD (by assumption) (by decide) | ((try dsimp only [ctx]); omega)); (case hu => first | exact roomC (by assumption) (by decide) | exact roomU (by assumption) (by decide) | ((try dsimp only [ctx]); omega)); (case hp => first | trivial | assumption); (case q3 => assumption); (case q1 => assumption); (case q2 => assumption); (case q4 => assumption); k_whole); intro h9 tk9 g9 T9 F9 N9 B9 X9 TT9 D9; (try k_sweep); (try dsimp only))); k_steps))
    repeat' ((first | ((with_reducible show LHold (wpAny _ _ (newTuple [_, .none]) _ _ _)); ((rename Fr _ _ _ _ => F9); (rename News _ _ _ _ => N9); refine' foldEnd0 (b := b) F9 N9 (by decide +kernel) (by assumption) (by assumption) ?_); intro D' h' tk' ex' F' N' hb' hA'; (try k_sweep); (try dsimp only)) | ((with_reducible show LHold (wpAny _ _ (newTuple [_, .ref _]) _ _ _)); ((rename Fr _ _ _ _ => F9); (rename News _ _ _ _ => N9); rename @Ne Nat _ b => hdb; refine' foldEnd1 (b := b) (o := 0) F9 N9 hdb ?hx ?hz (by assumption) (by assumption) ?_; (case hx => decide +kernel); (case hz => first | simp | omega)); intro D' h' tk' ex' F' N' hb' hA'; (clear hdb); (try k_sweep); (try dsimp only)) | ((with_reducible show LHold (wpAny _ _ (newTuple [_, .ref _]) _ _ _)); ((rename Fr _ _ _ _ => F9); (rename News _ _ _ _ => N9); rename @Ne Nat _ b => hdb; refine' foldEnd1 (b := b) (o := 1) F9 N9 hdb ?hx ?hz (by assumption) (by assumption) ?_; (case hx => decide +kernel); (case hz => first | simp | omega)); intro D' h' tk' ex' F' N' hb' hA'; (clear hdb); (try k_sweep); (try dsimp only)) | ((with_reducible show LHold (wpAny _ _ (newTuple [_, .ref _]) _ _ _)); ((rename Fr _ _ _ _ => F9); (rename News _ _ _ _ => N9); rename @Ne Nat _ b => hdb; refine' foldEnd1 (b := b) (o := 3) F9 N9 hdb ?hx ?hz (by assumption) (by assumption) ?_; (case hx => decide +kernel); (case hz => first | simp | omega)); intro D' h' tk' ex' F' N' hb' hA'; (clear hdb); (try k_sweep); (try dsimp only)) | ((with_reducible show LHold (wpAny _ _ (newTuple [_, .int _ _]) _ _ _)); unfold LHold; (k_dflt (refine' kup_newTuple ?F ?N ?_ ?z; (case F => k_asm); (case N => k_asm); (case z => kmk_size))); intro D' h' F' N' l1; (have hdb : @Ne Nat D' b := Nat.ne_of_gt (l1 (b, _) (.head _))); (clear l1); (try k_sweep); (try dsimp only))); (k_steps; repeat' ((first | (k_dflt (refine' TellC.useI (scoop _ _ _ _ _ _ _ _ ?q1 ?q2 ?q3 ?q4) ?B ?F ?N ?hm ?XB ?TB ?hk ?hd ?hu ?hp ?U ?_; (case B => k_asm); (case F => k_asm); (case N => k_asm); (case hm => k_mem); (case XB => k_asm); (case TB => k_asm); (case hk => exact rfl); (case hd => first | exact roomD (by assumption) (by decide) | ((try dsimp only [ctx]); omega)); (case hu => first | exact roomC (by assumption) (by decide) | exact roomU (by assumption) (by decide) | ((try dsimp only [ctx]); omega)); (case hp => first | trivial | assumption | (exact ⟨⟨_, _, _, News.get (by k_asm) (by k_mem)⟩, SL.up (by k_asm) (by assumption), by assumption⟩)); (case U => intro _ _ _; k_upd); (case q1 => first | assumption | omega); (case q2 => first | assumption | omega); (case q3 => decide); (case q4 => assumption); k_whole); intro h9 tk9 z9 t9 tb9 ts9 nb9 lo9 hi9 F9 N9b; (try k_sweep); (try dsimp only)) | (k_dflt (refine' TellT.useP (tokSome _ _ _ _ _ _ _ ?q1 ?q2 ?q3 ?q4) ?B ?F ?N ?XB ?TB ?D ?hk ?hd ?hu ?hp ?_; (case B => k_asm); (case F => k_asm); (case N => k_asm); (case XB => k_asm); (case TB => k_asm); (case D => k_asm); (case hk => exact rfl); (case hd => first | exact roomD (by assumption) (by decide) | ((try dsimp only [ctx]); omega)); (case hu => first | exact roomC (by assumption) (by decide) | exact roomU (by assumption) (by decide) | ((try dsimp only [ctx]); omega)); (case hp => first | trivial | assumption); (case q3 => assumption); (case q1 => assumption); (case q2 => assumption); (case q4 => assumption); k_whole); intro h9 tk9 g9 a9 c9 t9 T9 F9 N9b q9 B9 X9 TT9 D9; (dsimp only [AllNe] at q9); (try k_sweep); (try dsimp only)) | (k_dflt (refine' TellT.useV (tokNone _ _ _ _ _ ?q1 ?q2 ?q3 ?q4) ?B ?F ?N ?XB ?TB ?D ?hk ?hd ?hu ?hp ?_; (case B => k_asm); (case F => k_asm); (case N => k_asm); (case XB => k_asm); (case TB => k_asm); (case D => k_asm); (case hk => exact rfl); (case hd => first | exact roomD (by assumption) (by decide) | ((try dsimp only [ctx]); omega)); (case hu => first | exact roomC (by assumption) (by decide) | exact roomU (by assumption) (by decide) | ((try dsimp only [ctx]); omega)); (case hp => first | trivial | assumption); (case q3 => assumption); (case q1 => assumption); (case q2 => assumption); (case q4 => assumption); k_whole); intro h9 tk9 g9 T9 F9 N9 B9 X9 TT9 D9; (try k_sweep); (try dsimp only))); k_steps)))
    unfold FHold
    rename Fr _ _ _ _ => F3
    rename News _ _ _ _ => N5
    rename EndVals _ _ _ => A3
    rename 0 ≤ (_ : Int) => z0'
    rename (_ : Int) < 12 => z12
    refine' item_end (b := b) N5 (.head _) ?hb ?hled A3 z0' z12 rfl ?_ ?_
    case hb => k_mem
    case hled => exact fun p hp => .tail _ (.tail _ hp)
    · intro ad x tx N4 hbad
      clear N5 A3
      obtain ⟨e1, e2, e3⟩ := hrow.ends hz5 hbad
      have hx : x.length ≤ 60 := by rw [← row_len]; exact (bads_small hbad).1
      (k_steps; repeat' ((first | (k_dflt (refine' TellC.useI (scoop _ _ _ _ _ _ _ _ ?q1 ?q2 ?q3 ?q4) ?B ?F ?N ?hm ?XB ?TB ?hk ?hd ?hu ?hp ?U ?_; (case B => k_asm); (case F => k_asm); (case N => k_asm); (case hm => k_mem); (case XB => k_asm); (case TB => k_asm); (case hk => exact rfl); (case hd => first | exact roomD (by assumption) (by decide) | ((try dsimp only [ctx]); omega)); (case hu => first | exact roomC (by assumption) (by decide) | exact roomU (by assumption) (by decide) | ((try dsimp only [ctx]); omega)); (case hp => first | trivial | assumption | (exact ⟨⟨_, _, _, News.get (by k_asm) (by k_mem)⟩, SL.up (by k_asm) (by assumption), by assumption⟩)); (case U => intro _ _ _; k_upd); (case q1 => first | assumption | omega); (case q2 => first | assumption | omega); (case q3 => decide); (case q4 => assumption); k_whole); intro h9 tk9 z9 t9 tb9 ts9 nb9 lo9 hi9 F9 N9b; (try k_sweep); (try dsimp only)) | (k_dflt (refine' TellT.useP (tokSome _ _ _ _ _ _ _ ?q1 ?q2 ?q3 ?q4) ?B ?F ?N ?XB ?TB ?D ?hk ?hd ?hu ?hp ?_; (case B => k_asm); (case F => k_asm); (case N => k_asm); (case XB => k_asm); (case TB => k_asm); (case D => k_asm); (case hk => exact rfl); (case hd => first | exact roomD (by assumption) (by decide) | ((try dsimp only [ctx]); omega)); (case hu => first | exact roomC (by assumption) (by decide) | exact roomU (by assumption) (by decide) | ((try dsimp only [ctx]); omega)); (case hp => first | trivial | assumption); (case q3 => assumption); (case q1 => assumption); (case q2 => assumption); (case q4 => assumption); k_whole); intro h9 tk9 g9 a9 c9 t9 T9 F9 N9b q9 B9 X9 TT9 D9; (dsimp only [AllNe] at q9); (try k_sweep); (try dsimp only)) | (k_dflt (refine' TellT.useV (tokNone _ _ _ _ _ ?q1 ?q2 ?q3 ?q4) ?B ?F ?N ?XB ?TB ?D ?hk ?hd ?hu ?hp ?_; (case B => k_asm); (case F => k_asm); (case N => k_asm); (case XB => k_asm); (case TB => k_asm); (case D => k_asm); (case hk => exact rfl); (case hd => first | exact roomD (by assumption) (by decide) | ((try dsimp only [ctx]); omega)); (case hu => first | exact roomC (by assumption) (by decide) | exact roomU (by assumption) (by decide) | ((try dsimp only [ctx]); omega)); (case hp => first | trivial | assumption); (case q3 => assumption); (case q1 => assumption); (case q2 => assumption); (case q4 => assumption); k_whole); intro h9 tk9 g9 T9 F9 N9 B9 X9 TT9 D9; (try k_sweep); (try dsimp only))); k_steps))
      unfold LeaveP
      dsimp only
      refine' ret _ _ _ (StaysB.of (by assumption) hbF (Fr.keep (by k_asm))) ⟨⟨k' + 1, hko.1, hko.2, _, _, _, News.get (by k_asm) ?hm⟩, rfl⟩
      case hm => k_mem
    · intro ad dd x tx c tc tz o N4 hbad
      clear N5 A3
      obtain ⟨e1, e2, e3⟩ := hrow.ends hz5 hbad
      have hx : x.length ≤ 60 := by rw [← row_len]; exact (bads_small hbad).1
      have ez : (((row ++ x).length - x.cps.toList.length + o : Nat) : Int) = (row.length : Int) + (o : Int) := by rw [len_app, row_len, Nat.add_sub_cancel, Int.natCast_add]
      have hc := bads_code hbad
      rcases hc with rfl | rfl
      all_goals (
        (k_steps; repeat' ((first | (k_dflt (refine' TellC.useI (scoop _ _ _ _ _ _ _ _ ?q1 ?q2 ?q3 ?q4) ?B ?F ?N ?hm ?XB ?TB ?hk ?hd ?hu ?hp ?U ?_; (case B => k_asm); (case F => k_asm); (case N => k_asm); (case hm => k_mem); (case XB => k_asm); (case TB => k_asm); (case hk => exact rfl); (case hd => first | exact roomD (by assumption) (by decide) | ((try dsimp only [ctx]); omega)); (case hu => first | exact roomC (by assumption) (by decide) | exact roomU (by assumption) (by decide) | ((try dsimp only [ctx]); omega)); (case hp => first | trivial | assumption | (exact ⟨⟨_, _, _, News.get (by k_asm) (by k_mem)⟩, SL.up (by k_asm) (by assumption), by assumption⟩)); (case U => intro _ _ _; k_upd); (case q1 => first | assumption | omega); (case q2 => first | assumption | omega); (case q3 => decide); (case q4 => assumption); k_whole); intro h9 tk9 z9 t9 tb9 ts9 nb9 lo9 hi9 F9 N9b; (try k_sweep); (try dsimp only)) | (k_dflt (refine' TellT.useP (tokSome _ _ _ _ _ _ _ ?q1 ?q2 ?q3 ?q4) ?B ?F ?N ?XB ?TB ?D ?hk ?hd ?hu ?hp ?_; (case B => k_asm); (case F => k_asm); (case N => k_asm); (case XB => k_asm); (case TB => k_asm); (case D => k_asm); (case hk => exact rfl); (case hd => first | exact roomD (by assumption) (by decide) | ((try dsimp only [ctx]); omega)); (case hu => first | exact roomC (by assumption) (by decide) | exact roomU (by assumption) (by decide) | ((try dsimp only [ctx]); omega)); (case hp => first | trivial | assumption); (case q3 => assumption); (case q1 => assumption); (case q2 => assumption); (case q4 => assumption); k_whole); intro h9 tk9 g9 a9 c9 t9 T9 F9 N9b q9 B9 X9 TT9 D9; (dsimp only [AllNe] at q9); (try k_sweep); (try dsimp only)) | (k_dflt (refine' TellT.useV (tokNone _ _ _ _ _ ?q1 ?q2 ?q3 ?q4) ?B ?F ?N ?XB ?TB ?D ?hk ?hd ?hu ?hp ?_; (case B => k_asm); (case F => k_asm); (case N => k_asm); (case XB => k_asm); (case TB => k_asm); (case D => k_asm); (case hk => exact rfl); (case hd => first | exact roomD (by assumption) (by decide) | ((try dsimp only [ctx]); omega)); (case hu => first | exact roomC (by assumption) (by decide) | exact roomU (by assumption) (by decide) | ((try dsimp only [ctx]); omega)); (case hp => first | trivial | assumption); (case q3 => assumption); (case q1 => assumption); (case q2 => assumption); (case q4 => assumption); k_whole); intro h9 tk9 g9 T9 F9 N9 B9 X9 TT9 D9; (try k_sweep); (try dsimp only))); k_steps))
        unfold LeaveP
        dsimp only
        rw [ez, beq_self_eq_true]
        refine' ret _ _ _ (StaysB.of (by assumption) hbF (Fr.keep (by k_asm))) ⟨⟨k' + 1, hko.1, hko.2, _, _, _, News.get (by k_asm) ?hm⟩, rfl⟩
        case hm => k_mem)
end Mine
/-! T25 -/
namespace Mine
theorem start_T25 : True := by
  w_top off
  trivial
local macro_rules | `(tactic| k_room) => `(tactic| first | k_extra "room" | ((try dsimp only [Around.deeper, Around.mark, Around.in1]); omega))
theorem sv_room {l1 l2 : List (Str × Tok)} {x1 x2 : List Str} (h1 : List.map (fun x => x.fst) l1 = x1) (h2 : List.map (fun x => x.fst) l2 = x2) (hx : x1.length + x2.length ≤ 120) : (strValues l1).toArray.toList.length + (strValues l2).toArray.toList.length ≤ sizeLine := by
  have e1 : (strValues l1).length = x1.length := by rw [← h1]; simp [strValues]
  have e2 : (strValues l2).length = x2.length := by rw [← h2]; simp [strValues]
  rw [List.toList_toArray, List.toList_toArray, e1, e2, sizeLine_eq]
  omega
/-- the items of a list are texts -/
def Texts (vs : List Value) : Prop := vs.length ≤ 120 ∧ ∀ v ∈ vs, ∃ x t, v = .str x t
theorem sv_texts {l1 l2 : List (Str × Tok)} {x1 x2 : List Str} (h1 : List.map (fun x => x.fst) l1 = x1) (h2 : List.map (fun x => x.fst) l2 = x2) (hx : x1.length + x2.length ≤ 120) : Texts ((strValues l1).toArray.toList ++ (strValues l2).toArray.toList) := by
  rw [List.toList_toArray, List.toList_toArray]
  have e1 : (strValues l1).length = x1.length := by rw [← h1]; simp [strValues]
  have e2 : (strValues l2).length = x2.length := by rw [← h2]; simp [strValues]
  refine ⟨by rw [List.length_append, e1, e2]; exact hx, fun v hv => ?_⟩
  unfold strValues at hv
  rcases List.mem_append.mp hv with hv | hv <;> (obtain ⟨p, _, rfl⟩ := List.mem_map.mp hv; exact ⟨_, _, rfl⟩)
def GHold (P : Prop) : Prop := P
theorem holdG {P : Prop} (h : GHold P) : P := h
section
variable {prog : Program} {w : World} {A : Around} {E : Value → Shared → Prop} {s : Shared} {env : Env} {h₀ : Heap} {target : Expr} {body : List Stmt} {Q : Flow → Shared → Prop}
theorem itemsIndL {I ax : Addr} {lo : Obj} (J : Nat → (Str → Option Value) → List (Addr × Obj) → Prop) (vs : List Value)
    (done : ∀ m news, J vs.length m news → ∀ h tk, Fr h₀ env.locals h m → News h₀ env.locals h news → Q .next { s with heap := h, toks := tk })
    (turn : ∀ i v m news, vs[i]? = some v → J i m news → ∀ h tk, Fr h₀ env.locals h m → ∀ o1 : Obj, o1.cls = .type "list_iterator" → News h₀ env.locals h ((I, o1) :: news) →
      wpAny (model prog w) A (assign target env v) (fun _ s₂ => wpAny (model prog w) A (execs body env) (UnrPostW h₀ env.locals { s with heap := h, toks := tk } [(I, o1)] (fun m' n' => SubL [(ax, lo)] n' ∧ J (i + 1) m' n') Q) E s₂) E { s with heap := h, toks := tk }) :
    ∀ (r : List Value) (i : Nat) (m : Str → Option Value) (news : List (Addr × Obj)), i ≤ vs.length → vs.drop i = r → J i m news → ItemsRest prog w A E h₀ env target body Q s [(I, "list_iterator")] [(ax, lo)] (r.map .val) m news := by
  intro r
  induction r with
  | nil =>
    intro i m news hi hd hJ
    refine ItemsRest.zero fun h tk F N => ?_
    have hn : vs.length ≤ i := List.drop_eq_nil_iff.mp hd
    obtain rfl : i = vs.length := by omega
    exact done m news hJ h tk F N
  | cons v r ih =>
    intro i m news hi hd hJ
    have hv : vs[i]? = some v := by
      have := List.getElem?_drop (xs := vs) (i := i) (j := 0)
      rw [hd] at this
      simpa using this.symm
    have hlt : i < vs.length := (List.getElem?_eq_some_iff.mp hv).1
    have hr : vs.drop (i + 1) = r := by rw [← List.drop_drop, hd]; rfl
    refine ItemsRest.val fun h tk F => ?_
    refine AllObj.cons fun o1 c1 => AllObj.nil fun N => ?_
    refine wpAny_mono (turn i v m news hv hJ h tk F o1 c1 N) (fun _ s₂ p => wpAny_mono p (fun f s₃ q => ?_) fun _ _ e => e) fun _ _ e => e
    cases f with
    | ret v => exact q
    | brk => exact q
    | next =>
      obtain ⟨h', tk', m', n', e, F', N', o, k, hJ'⟩ := q
      exact ⟨h', tk', m', n', e, F', N', o, k, ih (i + 1) m' n' hlt hr hJ'⟩
    | cont =>
      obtain ⟨h', tk', m', n', e, F', N', o, k, hJ'⟩ := q
      exact ⟨h', tk', m', n', e, F', N', o, k, ih (i + 1) m' n' hlt hr hJ'⟩
end
/-- the numbers of the words: each has the number of those ahead of it -/
def NumK (kvs : List (Str × Value)) : Prop := ∀ (i : Nat) (p : Str × Value), kvs[i]? = some p → ∃ t, p.2 = Value.int (i : Int) t
theorem NumK.nil : NumK [] := fun i p h => by simp at h
theorem NumK.more {kvs : List (Str × Value)} {x : Str} {t : Tok} (H : NumK kvs) (hx : valueAt kvs x = none) : NumK (PySem.stored kvs x (.int (kvs.length : Int) t)) ∧ (PySem.stored kvs x (.int (kvs.length : Int) t)).length = kvs.length + 1 := by
  rw [stored_absent hx]
  refine ⟨fun i p hp => ?_, by simp⟩
  by_cases hi : i < kvs.length
  · rw [List.getElem?_append_left hi] at hp
    exact H i p hp
  · rw [List.getElem?_append_right (by omega)] at hp
    have h0 : i - kvs.length = 0 := by
      have := (List.getElem?_eq_some_iff.mp hp).1
      simp at this; omega
    rw [h0] at hp
    simp at hp
    exact ⟨t, by rw [← hp, show i = kvs.length by omega]⟩
section
variable {prog : Program} {w : World} {A : Around} {E : Value → Shared → Prop} {s : Shared} {h₀ : Heap} {L d : Addr} {news : List (Addr × Obj)} {o : Obj} {kvs : List (Str × Value)} {x : Str} {t : Tok}
theorem notin_num {Q : Value → Shared → Prop} (N : News h₀ L s.heap news) (hp : (d, o) ∈ news) (hd : o.IsDictOf (PySem.strKind prog w) kvs) (lo : (d == sysModules) = false) (h : Q (.bool (!(valueAt kvs x).isSome)) { s with toks := s.toks + 1 }) :
    wpAny (model prog w) A (compareOp .NotIn (.str x t) (.ref d)) Q E s := wpAny_notIn_of (strKind_is _ _ _ _) lo (kda_dict N hp hd).mapOf h
end
section


local macro_rules | `(tactic| walk_at "pyIter ref") => `(tactic| refine holdG ?_)




def WordsJ (w : World) (ax d : Addr) (vs : List Value) (i : Nat) (m : Str → Option Value) (nx : List (Addr × Obj)) : Prop :=
  ∃ o kvs u, nx = [(ax, W.listOf vs.toArray 0), (d, o)] ∧ o.IsDictOf (PySem.strKind PySem.Challenge.rw_pq0143_01.prog w) kvs ∧ NumK kvs ∧ kvs.length ≤ i ∧ m = (fun (y : Str) => if y = ("word" : Str) then u else List.lookup y [(("found" : Str), Value.ref d)])
local macro_rules | `(tactic| walk_at "zz") => `(tactic| skip)
theorem wordNumbers (w : World) : Tell w 20 207 [] (fun _ => True) (fun g h' v => ∃ d o kvs, v = .ref d ∧ g.get? d = none ∧ (d == sysModules) = false ∧ h'.get? d = some o ∧ o.IsDictOf (PySem.strKind PySem.Challenge.rw_pq0143_01.prog w) kvs ∧ NumK kvs ∧ kvs.length ≤ 120) (fun _ _ => False) := by
  unfold Tell
  intro mean mg mb dp un gd l base g gs dr tk os Q E B XB TB hd' hu hP ret rai
  revert XB; k_fill; intro XB
  have cLi := cLine_is
  have reci : recursionLimit = 1000 := rfl
  refine wpAny_call ?_
  k_dflt (refine' enterP (l0 := []) ?k1 ?k2 ?k3 ?k6 ?k7 ?k8 ?k9 ?kl ?kB ?_ ?c2 ?c3 ?c4 ?c5; (case k1 => exact B); (case k2 => exact XB); (case k3 => exact TB); (case k6 => k_is); (case k7 => k_is); (case k8 => exact roomZ hd'); (case k9 => exact BindsTo.of_eq rfl); (case kl => exact rfl); (case c5 => decide); (case kB => exact locs rfl); (case c2 => exact rfl); (case c3 => exact rfl); (case c4 => exact rfl); k_whole)
  intro L' h' tk0 F' N' X T
  dsimp only
  k_fold
  (k_with_none; (k_with "ne" => (first | exact ne_gt (by with_reducible assumption) | exact ne_lt (by with_reducible assumption) | with_reducible assumption | exact Ne.symm (by with_reducible assumption) | exact ne_gt (And.left (by with_reducible assumption)) | exact ne_gt (And.left (And.right (by with_reducible assumption))) | exact ne_gt (And.right (by with_reducible assumption)) | exact ne_gt (And.right (And.right (by with_reducible assumption))) | exact ne_lt (And.left (by with_reducible assumption)) | exact ne_lt (And.left (And.right (by with_reducible assumption))) | exact ne_lt (And.right (by with_reducible assumption)) | exact ne_lt (And.right (And.right (by with_reducible assumption))))); (k_with "room" => (first | exact roomD (by assumption) (by decide) | exact roomD (by assumption) (Nat.le_of_ble_eq_true rfl) | exact roomC (by assumption) (by decide))); (k_with "binaryOp Add ref ref" => (k_dflt (refine' kmk_add_lit ?FKw ?NKw ?aKw ?bKw ?eKw ?_ ?zKw; (case FKw => k_asm); (case NKw => k_asm); (case aKw => kmk_list); (case bKw => kmk_list); (case eKw => exact rfl); (case zKw => exact sv_room (by assumption) (by assumption) (by decide +kernel))); intro D' h' F' N' l1; (try k_lt l1); (try k_sweep))); (k_with "exec For Name BinOp cons nil" => ((rename Fr _ _ _ _ => lF'); (with_unfolding_all refine' For_turns lF' ?_; k_whole))); (k_with "compareOp NotIn" => (k_dflt (refine' notin_num ?NKw ?mKw ?dKw ?lKw ?_; (case NKw => k_asm); (case mKw => k_mem); (case dKw => assumption); (case lKw => assumption); k_whole))); (k_with "call builtin:len" => (k_dflt (refine' kda_len (knd := PySem.strKind _ _) ?NKw ?mKw ?dKw ?lKw ?zKw ?_; (case NKw => k_asm); (case mKw => k_mem); (case dKw => assumption); (case lKw => assumption); (case zKw => omega); k_whole))); (k_with "setItem ref str" => (k_dflt (refine' kda_set (knd := PySem.strKind _ _) ?FKw ?NKw ?UKw ?dKw (strKind_is _ _ _ _) ?zKw ?_; (case FKw => k_asm); (case NKw => k_asm); (case UKw => k_updF); (case dKw => assumption); (case zKw => rw [sizeLine_eq]; omega)); intro h' o' F' N' hd'; (try dsimp only at N'); (try k_sweep))); (k_with "ItemsRest" => refine holdU ?_); k_steps)
  all_goals (try (unfold GHold))
  rename Fr g _ _ _ => F0
  rename News g _ _ _ => N0
  have F1 := Fr_eq (Fr_eq F0 (loc_set "found" _ _)) (told_none (t := "word") _ rfl)
  refine' (fun (key : ∀ (ax d : Addr) (vs : List Value) (o : Obj), Texts vs → o.IsDictOf (PySem.strKind PySem.Challenge.rw_pq0143_01.prog w) [] → (d == sysModules) = false → @Ne Nat d ax → Fr g L' _ (fun (y : Str) => if y = ("word" : Str) then none else List.lookup y [(("found" : Str), Value.ref d)]) → News g L' _ [(ax, W.listOf vs.toArray 0), (d, o)] → wpAny _ _ (pyIter (.ref ax)) _ _ _) => key _ _ _ _ ?tx ?hs ?lo ?ne F1 (news_sub N0 ⟨?m1, ?m2, trivial⟩)) ?_
  case m1 => k_mem
  case m2 => k_mem
  case tx => exact sv_texts (by assumption) (by assumption) (by decide +kernel)
  case hs => assumption
  case lo => assumption
  case ne => omega
  clear F0 F1 N0
  intro ax d vs o hT hd hlo hne F1 N1
  refine iter_listTurns rfl F1 N1 (.head _) rfl rfl fun I hI => ?_
  refine itemsIndL (WordsJ w ax d vs) vs ?done ?turn vs 0 _ _ (Nat.zero_le _) rfl ⟨o, [], none, rfl, hd, .nil, Nat.le_refl _, rfl⟩
  case done =>
    rintro m news ⟨o, kvs, u, rfl, hd, hk, hl, rfl⟩ h tk F N
    have hTl := hT.1
    k_steps
    ((try dsimp only); (try (first | k_unfold | dsimp only [qk])); (try dsimp only); unfold LeaveP; dsimp only; refine ret _ _ _ (Fr.keep (by k_asm)) ?_; try dsimp only)
    exact ⟨d, o, kvs, rfl, News.fresh N (.tail _ (.head _)), hlo, News.get N (.tail _ (.head _)), hd, hk, by omega⟩
  case turn =>
    rintro i v m news hv ⟨o, kvs, u, rfl, hd, hk, hl, rfl⟩ h tk F o1 c1 N
    obtain ⟨x, t, rfl⟩ := hT.2 v (List.mem_of_getElem? hv)
    have hTl := hT.1
    have hiv : i < vs.length := (List.getElem?_eq_some_iff.mp hv).1
    have hdI : @LT.lt Nat _ d I := hI (d, _) (.tail _ (.head _))
    clear hI F1 N1
    k_steps
    · exact ⟨o, kvs, some _, rfl, hd, hk, by omega, told_told _ _ _⟩
    · have hn : valueAt kvs x = none := by
        have h0 : (valueAt kvs x).isSome = false := by assumption
        simpa using h0
      exact ⟨_, _, some _, rfl, by assumption, (hk.more hn).1, by rw [(hk.more hn).2]; omega, told_told _ _ _⟩
end
end Mine
/-! T26 -/
namespace Mine
theorem start_T26 : True := by
  w_top off
  trivial
section
variable {prog : Program} {w : World} {A : Around} {E : Value → Shared → Prop} {s : Shared} {a₀ : Array Keyed}
theorem minRun_le (n : Nat) (h2 : 2 ≤ n) (hn : n < 128) : minRun' n n 0 ≤ n := by
  obtain ⟨f, rfl⟩ : ∃ f, n = f + 2 := ⟨n - 2, by omega⟩
  rw [minRun'_succ]
  split
  · omega
  · rw [minRun'_succ]
    split
    · omega
    · omega
theorem countRun_asc {st : SortSt} {Q : Option Nat → SortSt → Prop} (h0 : IntKeys a₀) (h1 : 1 ≤ a₀.size) (hB : SBase a₀ st) (hs : SortedTo (arrOf st) a₀.size) (h : Q (some a₀.size) st) :
    wpS (model prog w) A E s (countRun' 0 a₀.size) Q st := by
  rw [countRun0_eq]
  refine wpS_bind (wpS_ascLoop h0 (Nat.le_refl _) (Nat.le_refl 1) h1 hB (fun i j hij hj => hs i j hij (by omega)) fun n hn1 hn2 hsn hor => ?_)
  have hnn : n = a₀.size := by
    rcases hor with q | q
    · exact q
    · exact Classical.byContradiction fun hne => by
        have := hs (n - 1) n (by omega) (by omega)
        omega
  subst hnn
  dsimp only
  rw [if_pos (by simp)]
  exact wpS_pure h
theorem sortRuns_asc {st : SortSt} {Q : Unit → SortSt → Prop} (h0 : IntKeys a₀) (hB : SBase a₀ st) (h2 : 2 ≤ a₀.size) (hn : a₀.size < 128) (hs : SortedTo (arrOf st) a₀.size)
    (h : ∀ st', arrOf st' = arrOf st → failedOf st' = none → Q () st') : wpS (model prog w) A E s sortRuns' Q st := by
  rw [sortRuns'_eq]
  refine wpS_bind (wpS_get ?_)
  dsimp only
  have hmr := minRun_le a₀.size h2 hn
  simp only [hB.size]
  refine wpS_bind (wpS_mono (wpS_forRange
    (I := fun x c st' => (x = 0 ∧ c = (none, 0) ∧ st' = st) ∨ (1 ≤ x ∧ c = (none, a₀.size) ∧ st' = setPending st ((pendingOf st).push (0, a₀.size, 0))))
    (Q := fun c st' => c = (none, a₀.size) ∧ st' = setPending st ((pendingOf st).push (0, a₀.size, 0))) ?step ?fin (.inl ⟨rfl, rfl, rfl⟩)) ?post)
  case fin =>
    rintro c st' (⟨hx, _, _⟩ | ⟨_, hc, hD⟩)
    · omega
    · exact ⟨hc, hD⟩
  case step =>
    rintro x c st' _ hx (⟨rfl, rfl, rfl⟩ | ⟨hx1, rfl, rfl⟩)
    · dsimp only
      rw [if_neg (by omega)]
      simp only [Nat.sub_zero, Nat.min_self, Nat.zero_add]
      refine wpS_bind (countRun_asc h0 (by omega) hB hs ?_)
      dsimp only
      rw [if_neg (by omega)]
      refine wpS_bind (wpS_get ?_)
      have hb : (pendingOf st').back? = none := by rw [hB.pend]; rfl
      rw [hb]
      dsimp only
      exact wpS_bind (wpS_modify (wpS_pure (.inr ⟨by omega, rfl, rfl⟩)))
    · dsimp only
      rw [if_pos (Nat.le_refl _)]
      exact wpS_pure ⟨rfl, rfl⟩
  case post =>
    rintro c st' ⟨rfl, rfl⟩
    dsimp only
    refine wpS_bind (wpS_mono (wpS_forRange (I := fun _ c st'' => st'' = setPending st ((pendingOf st).push (0, a₀.size, 0)) ∧ c = (none, ())) (Q := fun c st'' => st'' = setPending st ((pendingOf st).push (0, a₀.size, 0)) ∧ c = (none, ())) ?_ (fun _ _ hh => hh) ⟨rfl, rfl⟩) ?_)
    · rintro x c st'' _ _ ⟨rfl, rfl⟩
      refine wpS_bind (wpS_get ?_)
      have hp : (pendingOf (setPending st ((pendingOf st).push (0, a₀.size, 0)))).size = 1 := by
        show ((pendingOf st).push _).size = 1
        rw [hB.pend]; rfl
      rw [if_pos (Nat.le_of_eq hp)]
      exact wpS_pure ⟨rfl, rfl⟩
    · rintro c st'' ⟨rfl, rfl⟩
      exact wpS_pure (h _ rfl hB.failed)
end
end Mine
/-! T27 -/
namespace Mine
theorem start_T27 : True := by
  w_top off
  trivial
theorem Tell.useW {w : World} {k : Nat} {f : Addr} {vs : List Value} {P : Heap → Prop} {R : Heap → Heap → Value → Prop} {X : Str → Value → Prop} {mean : ExcName → Option Value} {mg mb : Str → Option Value} {dp un : Nat} {gd : Option (List Code)} {cn : Str} {cs : Scope} {L a : Addr} {ccd : Value} {cl : List (Str × Addr)}
    {A₀ : Around} {outer : List Env} {base g : Heap} {m : Str → Option Value} {news : List (Addr × Obj)} {s : Shared} {Q E : Value → Shared → Prop}
    (C : Tell w k f vs P R X) (B : Below A₀ base outer g) (F : Fr g L s.heap m) (N : News g L s.heap news) (XB : (_root_.MineH.hd.heap_1 w.params).In base) (TB : Top _root_.MineH.hd.view_39 (looseW _root_.MineH.hd.view_39 [Str.ofString "BasicError", Str.ofString "PAIRS"]) mean mg mb base) (hk : cs.kind = .function)
    (hd : dp + k < recursionLimit) (hu : un + 10 * k < cLine) (hp : P s.heap)
    (ret : ∀ v h' tk', (∀ b o, s.heap.get? b = none → h'.get? b = some o → News g L h' ((b, o) :: news) ∧ AllNe b news) → Fr g L h' m → News g L h' news → R s.heap h' v → Q v { s with heap := h', toks := tk' })
    (rai : ∀ e h' tk' c v, X c v → Fly w base s.heap (envX cn cs L a ccd cl :: outer) e c v h' → s.heap.UpToSlots h' → E (.ref e) { s with heap := h', toks := tk' }) :
    wpAny (model PySem.Challenge.rw_pq0143_01.prog w) (ctx dp un gd (envX cn cs L a ccd cl :: outer)) (call (.ref f) vs) Q E s :=
  Tell.use C B F N XB TB hk hd hu hp (fun v h' tk' st F' N' r => ret v h' tk' (fun b o hb ho => ⟨fun p hp => by
    rcases List.mem_cons.mp hp with rfl | hp
    · refine ⟨ho, fun q => ?_, kts_none F.keep hb⟩
      obtain ⟨oL, es, ep, hL, _⟩ := F.ns
      dsimp only at q
      rw [q, hL] at hb; cases hb
    · exact N' p hp, allNe_of fun p hp q => by
      have := N.get hp; rw [q, hb] at this; cases this⟩) F' N' r) rai
end Mine
/-! T28 -/
namespace Mine
theorem start_T28 : True := by
  w_top off
  trivial
open Builtin Builtin.ObjectAttr
/-- the method get, bound to the dict at d -/
def boundGet (d : Addr) : Obj := { cls := .type "builtin_function_or_method", data := .fields #[.builtin "dict.get", .ref d] }
theorem slot_mget : PySem.Slot "method_descriptor" "__get__" "method_descriptor.__get__" :=
  .of (owner := "method_descriptor") (n := "__get__") (by rw [typeLookup_type, builtinLookup_eq_fast]; kernel_rfl) (by decide +kernel) (by decide +kernel) (by decide +kernel)
    (by first | exact .inl (by decide +kernel) | exact .inr (by decide +kernel)) (by rw [isSubtype_type]; kernel_rfl)
theorem entry_mget : entryFor table "method_descriptor.__get__" = some Builtin.«method_descriptor.__get__» := entryFor_of_tree (by kernel_rfl)
theorem args_mget (a b c : Value) : argsOk "method_descriptor.__get__" ⟨[a, b, c], []⟩ := by unfold argsOk; kernel_rfl
theorem told_dget : (Manifest.toldItsClass.contains "dict.get") = false := by decide +kernel
theorem sub_dict : isSubtype (.type "dict") (.type "dict") = pure true := by rw [isSubtype_type]; kernel_rfl
theorem md_get : typeLookup (.type "method_descriptor") "__get__" = pure (some (.builtin "method_descriptor.__get__")) := slot_mget.lookup
theorem md_set : typeLookup (.type "method_descriptor") "__set__" = pure none := by rw [typeLookup_type, builtinLookup_eq_fast]; kernel_rfl
theorem md_del : typeLookup (.type "method_descriptor") "__delete__" = pure none := by rw [typeLookup_type, builtinLookup_eq_fast]; kernel_rfl
section
variable {prog : Program} {w : World} {M : Model} {A : Around} {E : Value → Shared → Prop} {s : Shared} {d : Addr}
theorem dget_run {P : PySem.Fin → Shared → Prop} (hd : s.TypeIs (.ref d) "dict") (h : P (.done (.ret (.ref s.heap.objs.size))) { s with heap := s.heap.push (boundGet d) }) :
    wpAny M A (Builtin.«method_descriptor.__get__» ⟨[.builtin "dict.get", .ref d, .type "dict"], []⟩) P E s := by
  unfold Builtin.«method_descriptor.__get__»
  refine wpAny_bind (wpAny_of_eq (a := (.builtin "dict.get", some (.ref d), some (.type "dict"))) (by first | rfl | kernel_rfl) ?_)
  dsimp only
  refine KFB.if_not told_dget ?_
  refine wpAny_bind ?_
  refine wpAny_bind (wpAny_of_eq (a := (("get" : Str), Value.type "dict")) (by first | rfl | kernel_rfl) ?_)
  dsimp only
  refine wpAny_bind (wpAny_isInstance (T := "dict") (b := true) hd sub_dict ?_)
  refine KFB.if_not rfl ?_
  refine wpAny_pure ?_
  exact wpAny_bind (wpAny_newObj_type (wpAny_pure h))
theorem ga_tree {P : PySem.Fin → Shared → Prop} {u : Tok} {o : Obj} (ho : s.heap.get? d = some o) (hc : o.cls = .type "dict") (hdd : o.dict = none) (hdat : ∃ es n, o.data = .dict es n)
    (h : P (.done (.ret (.ref s.heap.objs.size))) { s with heap := s.heap.push (boundGet d) }) :
    wpAny (model prog w) A (Builtin.«object.__getattribute__» ⟨[.ref d, .str "get" u], []⟩) P E s := by
  obtain ⟨c, dct, dat, sl⟩ := o
  obtain ⟨es, n, hdat⟩ := hdat
  simp only at hc hdat hdd
  subst hc hdat hdd
  obtain ⟨hp, g, dr, tk, os⟩ := s
  have hT : (⟨hp, g, dr, tk, os⟩ : Shared).TypeIs (.ref d) "dict" := ⟨_, ho, rfl⟩
  have f1 := PySem.F.slot_dict_get.lookup
  have f2 := PySem.F.type_dict_get
  have f3 := md_get
  have f4 := md_set
  have f5 := md_del
  unfold Builtin.«object.__getattribute__»
  repeat (any_goals (first | assumption | ((with_reducible show wpAny _ _ (call (Value.builtin "method_descriptor.__get__") _) _ _ _); refine wpAny_call_entry slot_mget PySem.F.type_dict_get entry_mget (dget_run hT ⟨_, rfl, wpAny_pure h⟩) (args_mget _ _ _)) | wp_step))
theorem attr_dget {Q : Value → Shared → Prop} {expr : Bool} {o : Obj} (ho : s.heap.get? d = some o) (hc : o.cls = .type "dict") (hdd : o.dict = none) (hdat : ∃ es n, o.data = .dict es n)
    (h : Q (.ref s.heap.objs.size) { s with heap := s.heap.push (boundGet d), toks := s.toks + 1 }) : wpAny (model prog w) A (getAttr (.ref d) "get" expr) Q E s := by
  obtain ⟨c, dct, dat, sl⟩ := o
  obtain ⟨es, n, hdat⟩ := hdat
  simp only at hc hdat hdd
  subst hc hdat hdd
  obtain ⟨hp, g, dr, tk, os⟩ := s
  have hT : ∀ tk', (⟨hp, g, dr, tk', os⟩ : Shared).TypeIs (.ref d) "dict" := fun _ => ⟨_, ho, rfl⟩
  have f3 := PySem.F.slot_dict_getattribute.lookup
  have f4 := PySem.F.slot_dict_getattribute.bind (.ref d)
  have f5 := am_dict_getattr_none
  have hx0 : (expr && onTheHeap (Value.builtin "dict.__getattribute__")) = false := by cases expr <;> rfl
  unfold getAttr getAttrBy
  repeat (any_goals (first | assumption | exact hT _ | (with_reducible refine KFB.if_not hx0 ?_; unfold boundAndCalled) | ((with_reducible show wpAny _ _ (call (Value.builtin "dict.__getattribute__") _) _ _ _); refine wpAny_call_entry PySem.F.slot_dict_getattribute (hT _) am_entry_dict_getattribute (ga_tree ho rfl rfl ⟨_, _, rfl⟩ ?_) (PySem.F.args_dict_getattribute_2 _ _)) | wp_step))
  refine ⟨_, rfl, ?_⟩
  show wpAny _ _ (handedOut (.ref _)) _ _ _
  rw [handedOut_of rfl]
  exact wpAny_pure h
theorem quiet_dget {as : Args} : (Code.builtin "dict.get" as).quiet = true := Code.quiet_builtin _ (by decide +kernel)
theorem dg_args {x : Str} {t : Tok} : (match Manifest.signature? "dict.get" with | some sig => Bind.checkArgs "dict.get" { sig with full := s!"{Bind.lastOf "dict"}.{Bind.lastOf "dict.get"}" } ⟨[.ref d, .str x t], []⟩ | none => pure ()) = pure () := by kernel_rfl
theorem dg_kind : builtinKind "dict.get" = some .method := by decide +kernel
theorem dg_var : (Manifest.varargsMethods.contains "dict.get") = false := by decide +kernel
theorem dg_mod : isSubtype (.type "dict") (.type "module") = pure false := by rw [isSubtype_type]; kernel_rfl
theorem dg_type : isSubtype (.type "dict") (.type "type") = pure false := by rw [isSubtype_type]; kernel_rfl
theorem dg_name : (s!"{Bind.lastOf "dict"}.{Bind.lastOf "dict.get"}") = "dict.get" := by decide +kernel
theorem check_dget {x : Str} {t : Tok} {Q : Unit → Shared → Prop} {o : Obj} {es : Array DictEntry} {n : Nat} (ho : s.heap.get? d = some o) (hc : o.cls = .type "dict") (hdat : o.data = .dict es n) (hQ : Q () s) : wpAny M A (checkBoundCall "dict.get" ⟨[.ref d, .str x t], []⟩) Q E s := by
  have hT : s.TypeIs (.ref d) "dict" := ⟨o, ho, hc⟩
  have ha := dg_args (d := d) (x := x) (t := t)
  have f1 := dg_mod
  have f2 := dg_type
  unfold checkBoundCall
  cases hsig : Manifest.signature? "dict.get" with
  | none => exact wpAny_pure hQ
  | some sig =>
    rw [hsig] at ha
    dsimp only at ha
    simp only [dg_kind, dg_var]
    refine KFB.if_not rfl ?_
    refine wpAny_bind (wpAny_isInstance hT dg_mod ?_)
    refine KFB.if_not rfl ?_
    refine wpAny_bind ?_
    refine wpAny_bind ?_
    obtain ⟨c, dct, dat, sl⟩ := o
    simp only at hc hdat
    subst hc hdat
    refine wpAny_loadPart ho ?_
    repeat (any_goals (first | assumption | exact hT | ((with_reducible show wpAny _ _ (Bind.checkArgs _ _ _) _ _ _); refine wpAny_of_eq ha ?_) | wp_step))
/-- a call of the bound get -/
theorem call_bget {x : Addr} {kvs : List (Str × Value)} {o : Obj} {y : Str} {t : Tok} {v : Value} {Q : Value → Shared → Prop} (hx : s.heap.get? x = some (boundGet d)) (ho : s.heap.get? d = some o) (hd : o.IsDictOf (PySem.strKind prog w) kvs) (lo : (d == sysModules) = false)
    (hl : valueAt kvs y = some v) (h : Q v { s with toks := s.toks + 1 }) : wpAny (model prog w) A (call (.ref x) [.str y t]) Q E s := by
  have hm : s.heap.DictOf (PySem.strKind prog w) d kvs := Heap.dictOf_iff.mpr ⟨o, ho, hd⟩
  obtain ⟨es, n, ⟨hc, hdd, hss⟩, hdat, _⟩ := hd
  refine wpAny_call (codeAny_of_tree ?_)
  show wpAny _ A.in1 (callAny (.ref x) ⟨[.str y t], []⟩) _ _ s
  simp only [callAny]
  refine wpAny_bind (wpAny_load hx ?_)
  simp only [boundGet, show (Value.type "builtin_function_or_method" == Value.type "method" || Value.type "builtin_function_or_method" == Value.type "builtin_function_or_method" || Value.type "builtin_function_or_method" == Value.type "method-wrapper") = true by decide, if_true]
  refine KFB.if_so (by decide) ?_
  refine wpAny_bind (check_dget ho hc hdat ?_)
  refine wpAny_bind (wpAny_pure (wpAny_pure ?_))
  refine ⟨quiet_dget, codeAny_builtin PySem.F.entry_dict_get ?_⟩
  show wpAny _ _ (Builtin.«dict.get» ⟨[.ref d, .str y t], []⟩) _ _ _
  refine wpAny_mono ((meets_dict_get (PySem.strKind prog w) d (strKind_is _ _ _ _) lo) _ (wants Q E) _ ⟨_, hm.mapOf, by rw [hl]; exact h⟩) (fun _ _ z => z) fun _ _ z => z
end
end Mine
/-! T29 -/
namespace Mine
theorem start_T29 : True := by
  w_top off
  trivial
section
variable {prog : Program} {w : World} {A : Around} {E : Value → Shared → Prop} {s : Shared} {h₀ : Heap} {L : Addr} {m : Str → Option Value} {news : List (Addr × Obj)} {a kS : Addr} {vs : List Value} {keys : Array Value} {n : Nat} {e e1 : Nat} {P : PySem.Fin → Shared → Prop}
/-- the ending of a sort by keys: the list has as many items as before -/
theorem asc_tail {st : SortSt} (F : Fr h₀ L s.heap m) (N : News h₀ L s.heap (news ++ [(kS, seqObj "list" keys e), (a, seqObj "list" #[] e1)])) (hka : kS ≠ a) (hnk : ∀ p ∈ news, p.1 ≠ kS) (hna : ∀ p ∈ news, p.1 ≠ a)
    (hks : keys.size ≤ 1000) (hn : n ≤ 1000) (hsz2 : (arrOf st).size = n) (hfl : failedOf st = none)
    (h : ∀ h' tk (out : Array Value) c, Fr h₀ L h' m → News h₀ L h' ((a, seqObj "list" out c) :: news) → out.size = n → P (.done (.ret .none)) { s with heap := h', toks := tk }) :
    wpAny (model prog w) A (ksk_tail a false e1 (.ref kS) st) P E s := by
  have nk := N (kS, seqObj "list" keys e) (List.mem_append_right _ (.head _))
  have na := N (a, seqObj "list" #[] e1) (List.mem_append_right _ (.tail _ (.head _)))
  have Nn : News h₀ L s.heap news := fun p hp => N p (List.mem_append_left _ hp)
  have hout : ((arrOf st).map (·.2)).size = n := by rw [Array.size_map]; exact hsz2
  have s1 := Heap.SameBut.update s.heap kS (Obj.mapSeq fun _ => (#[] : Array Value))
  have na1 := (s1.2 a hka.symm).trans na.1
  have s2 := Heap.SameBut.update (s.heap.update kS (Obj.mapSeq fun _ => (#[] : Array Value))) a (Obj.mapSeq fun _ => (arrOf st).map (·.2))
  obtain ⟨c2, hc2⟩ : ∃ c2, ((s.heap.update kS (Obj.mapSeq fun _ => (#[] : Array Value))).update a (Obj.mapSeq fun _ => (arrOf st).map (·.2))).get? a = some (seqObj "list" ((arrOf st).map (·.2)) c2) :=
    ⟨_, get?_update_seq na1 fun _ => (arrOf st).map (·.2)⟩
  have N2 := ksk_news (ksk_news Nn s1 hnk) s2 hna
  unfold ksk_tail
  refine wpAny_bind (listUpdate_at nk.1 rfl ?_ (by rw [sizeLine_eq]; omega) (Nat.zero_le _))
  refine wpAny_bind (wpAny_letGo ?_)
  refine wpAny_bind (seqEpoch_at na1 rfl ?_)
  refine wpAny_bind (listUpdate_at na1 rfl ?_ (Nat.zero_le _) (Nat.le_trans (Nat.le_of_eq hout) (by rw [sizeLine_eq]; omega)))
  rw [hfl]
  simp only [bne_self_eq_false, Bool.false_eq_true, if_false]
  refine wpAny_pure (h _ _ _ c2 (ksk_fr (ksk_fr F s1 nk.2.1 nk.2.2) s2 na.2.1 na.2.2) (fun p hp => ?_) hout)
  rcases List.mem_cons.mp hp with rfl | hp
  · exact ⟨hc2, na.2⟩
  · exact N2 p hp
theorem K_zip {kz : List Int} (hk : IntsAre keys.toList kz) (hl : keys.size = vs.length) {i : Nat} (hi : i < vs.length) : PyProof.Rows.K (keys.zip vs.toArray) i = kz.getD i 0 := by
  have hz : i < (keys.zip vs.toArray).size := by simp [hl, hi]
  rw [K_eq hz]
  have hn := hk.nums
  have e : (keys.zip vs.toArray)[i].1 = keys[i]'(by omega) := by simp
  rw [e, ← hn]
  simp [List.getD_eq_getElem?_getD, hl, hi]
theorem asc_end {kz : List Int} (F : Fr h₀ L s.heap m) (N : News h₀ L s.heap (news ++ [(kS, seqObj "list" keys e), (a, seqObj "list" #[] e1)])) (hka : kS ≠ a) (hnk : ∀ p ∈ news, p.1 ≠ kS) (hna : ∀ p ∈ news, p.1 ≠ a)
    (hk : IntsAre keys.toList kz) (hlen : kz.length = vs.length) (h128 : vs.length < 128) (hasc : ∀ i j, i ≤ j → j < vs.length → kz.getD i 0 ≤ kz.getD j 0)
    (h : ∀ h' tk (out : Array Value) c, Fr h₀ L h' m → News h₀ L h' ((a, seqObj "list" out c) :: news) → out.size = vs.length → P (.done (.ret .none)) { s with heap := h', toks := tk }) :
    wpAny (model prog w) A (ksk_end a false vs.toArray e1 (.ref kS) keys) P E s := by
  have hsz : keys.size = vs.length := by
    have h1 := hk.length
    rw [Array.length_toList] at h1
    omega
  have hzs : (keys.zip vs.toArray).size = vs.length := by rw [Array.size_zip, hsz, List.size_toArray, Nat.min_self]
  unfold ksk_end
  simp only [Bool.false_eq_true, if_false]
  by_cases h2 : vs.toArray.size < 2
  · rw [if_pos h2, if_pos h2]
    refine wpAny_bind (wpAny_pure ?_)
    rw [StateT.run_pure]
    refine wpAny_bind (wpAny_pure ?_)
    exact asc_tail (st := SortSt.mk' general' (keys.zip vs.toArray) #[] 7 none) F N hka hnk hna (by omega) (n := vs.length) (by omega) hzs rfl h
  · rw [if_neg h2, if_neg h2]
    rw [List.size_toArray] at h2
    rw [ksk_kind hk (by rw [hsz]; omega)]
    refine wpAny_bind (wpAny_pure ?_)
    refine wpAny_bind (wpAny_mono (sortRuns_asc (a₀ := keys.zip vs.toArray) (st := SortSt.mk' oneType' (keys.zip vs.toArray) #[] 7 none)
      (Q := fun _ st' => (arrOf st').size = vs.length ∧ failedOf st' = none)
      (ksk_intKeys hk) ⟨Array.Perm.refl _, rfl, rfl, rfl⟩ (by rw [hzs]; omega) (by rw [hzs]; exact h128) (fun i j hij hj => ?_) fun st' a1 a2 => ⟨by rw [a1]; exact hzs, a2⟩) ?_ fun _ _ e => e)
    · rw [hzs] at hj
      show PyProof.Rows.K (keys.zip vs.toArray) i ≤ PyProof.Rows.K (keys.zip vs.toArray) j
      rw [K_zip hk hsz (by omega), K_zip hk hsz hj]
      exact hasc i j hij hj
    · rintro ⟨⟨⟩, st'⟩ s' ⟨rfl, hp, hf⟩
      exact asc_tail F N hka hnk hna (by omega) (by omega) hp hf h
theorem asc_rest {kz : List Int} {f : Value} (F : Fr h₀ L s.heap m) (N : News h₀ L s.heap (news ++ [(kS, seqObj "list" #[] 0), (a, seqObj "list" #[] e1)])) (hka : kS ≠ a) (hnk : ∀ p ∈ news, p.1 ≠ kS) (hna : ∀ p ∈ news, p.1 ≠ a)
    (hlen : kz.length = vs.length) (h128 : vs.length < 128) (hasc : ∀ i j, i ≤ j → j < vs.length → kz.getD i 0 ≤ kz.getD j 0)
    (turn : ∀ (i : Nat) (v : Value) (k : Int), vs[i]? = some v → kz[i]? = some k → ∀ (h : Heap) (tk : Nat) (own : List (Addr × Obj)), Fr h₀ L h m → News h₀ L h (news ++ own) →
      wpAny (model prog w) A (call f [v]) (KskEnd h₀ L m (news ++ own) k { s with heap := h, toks := tk }) (fun _ _ => False) { s with heap := h, toks := tk })
    (h : ∀ h' tk (out : Array Value) c, Fr h₀ L h' m → News h₀ L h' ((a, seqObj "list" out c) :: news) → out.size = vs.length → P (.done (.ret .none)) { s with heap := h', toks := tk }) :
    wpAny (model prog w) A (ksk_rest a f false vs.toArray e1 (.ref kS)) P E s := by
  unfold ksk_rest
  refine wpAny_bind (wpAny_rule ?_)
  rw [List.forIn_toArray]
  refine wpAny_bind (ksk_fold (fun i s' => ∃ h' tk kA e, s' = { s with heap := h', toks := tk } ∧ Fr h₀ L h' m ∧ News h₀ L h' (news ++ [(kS, seqObj "list" kA e), (a, seqObj "list" #[] e1)]) ∧ IntsAre kA.toList (kz.take i)) vs 0 s
    ⟨s.heap, s.toks, #[], 0, rfl, F, N, by simpa using IntsAre.nil⟩ ?step ?done)
  case step =>
    rintro j x s' hx ⟨h', tk, kA, e, rfl, F', N', hk⟩
    simp only [Nat.zero_add] at hk ⊢
    have hj : j < vs.length := (List.getElem?_eq_some_iff.mp hx).1
    have hkj : kz[j]? = some (kz[j]'(by omega)) := List.getElem?_eq_getElem (by omega)
    have hz : kA.size ≤ vs.length := by
      have h1 := hk.length
      rw [Array.length_toList, List.length_take] at h1
      omega
    refine wpAny_bind (wpAny_attempt (wpAny_mono (turn j x _ hx hkj h' tk _ F' N') (fun v s'' he => ?_) fun _ _ hF => hF.elim))
    obtain ⟨g, tk2, t2, rfl, rfl, F2, N2⟩ := he
    dsimp only
    have nk := N2 (kS, seqObj "list" kA e) (List.mem_append_right _ (.head _))
    have na := N2 (a, seqObj "list" #[] e1) (List.mem_append_right _ (.tail _ (.head _)))
    have s1 := Heap.SameBut.update g kS (Obj.mapSeq (·.push (.int (kz[j]'(by omega)) t2)))
    obtain ⟨c2, hc2⟩ : ∃ c2, (g.update kS (Obj.mapSeq (·.push (.int (kz[j]'(by omega)) t2)))).get? kS = some (seqObj "list" (kA.push (.int (kz[j]'(by omega)) t2)) c2) := ⟨_, get?_update_seq nk.1 (·.push (.int (kz[j]'(by omega)) t2))⟩
    refine wpAny_bind (listUpdate_at nk.1 rfl ?_ (by rw [sizeLine_eq]; omega) (Nat.le_trans (Nat.le_of_eq (Array.size_push ..)) (by rw [sizeLine_eq]; omega)))
    refine wpAny_pure ⟨rfl, _, _, kA.push (.int (kz[j]'(by omega)) t2), c2, rfl, ksk_fr F2 s1 nk.2.1 nk.2.2, fun p hp => ?_, ?_⟩
    · rcases List.mem_append.mp hp with hp | hp
      · exact ksk_news (fun q hq => N2 q (List.mem_append_left _ hq)) s1 hnk p hp
      · rcases List.mem_cons.mp hp with rfl | hp
        · exact ⟨hc2, nk.2⟩
        · rw [List.mem_singleton.mp hp]
          exact ⟨(s1.2 a hka.symm).trans na.1, na.2⟩
    · rw [List.take_add_one, hkj, Array.toList_push]
      exact ksk_snoc hk
  case done =>
    rintro s' ⟨h', tk, kA, e, rfl, F', N', hk⟩
    rw [List.take_of_length_le (by omega)] at hk
    have nk := N' (kS, seqObj "list" kA e) (List.mem_append_right _ (.head _))
    try dsimp only
    refine wpAny_bind (listItems_at nk.1 rfl ?_)
    exact asc_end F' N' hka hnk hna hk hlen h128 hasc fun h3 tk3 out c F3 N3 k3 => h h3 tk3 out c F3 N3 k3
theorem asc_sort {kz : List Int} {f : Value} (F : Fr h₀ L s.heap m) (N : News h₀ L s.heap news) (ho : s.heap.get? a = some (seqObj "list" vs.toArray n)) (haL : a ≠ L) (ha0 : h₀.get? a = none) (hna : ∀ p ∈ news, p.1 ≠ a)
    (hlen : kz.length = vs.length) (h128 : vs.length < 128) (hasc : ∀ i j, i ≤ j → j < vs.length → kz.getD i 0 ≤ kz.getD j 0)
    (turn : ∀ (i : Nat) (v : Value) (k : Int), vs[i]? = some v → kz[i]? = some k → ∀ (h : Heap) (tk : Nat) (own : List (Addr × Obj)), Fr h₀ L h m → News h₀ L h (news ++ own) →
      wpAny (model prog w) A (call f [v]) (KskEnd h₀ L m (news ++ own) k { s with heap := h, toks := tk }) (fun _ _ => False) { s with heap := h, toks := tk })
    (h : ∀ h' tk (out : Array Value) c, Fr h₀ L h' m → News h₀ L h' ((a, seqObj "list" out c) :: news) → out.size = vs.length → P (.done (.ret .none)) { s with heap := h', toks := tk }) :
    wpAny (model prog w) A (ksk_tree a f false) P E s := by
  have ha : a < s.heap.objs.size := Heap.lt_size ho
  have s1 := Heap.SameBut.update s.heap a (Obj.mapSeq fun _ => (#[] : Array Value))
  obtain ⟨e1, ho1⟩ : ∃ e1, (s.heap.update a (Obj.mapSeq fun _ => (#[] : Array Value))).get? a = some (seqObj "list" #[] e1) := ⟨_, get?_update_seq ho fun _ => #[]⟩
  have F1 := ksk_fr F s1 haL ha0
  have N1 := ksk_news N s1 hna
  have hkS : ((s.heap.update a (Obj.mapSeq fun _ => (#[] : Array Value))).push (seqObj "tuple" vs.toArray 0)).objs.size = s.heap.objs.size + 1 := by rw [size_push', Heap.size_update]
  have hLk : L < ((s.heap.update a (Obj.mapSeq fun _ => (#[] : Array Value))).push (seqObj "tuple" vs.toArray 0)).objs.size := (F1.push _).ns.lt
  unfold ksk_tree
  refine wpAny_bind (listItems_at ho rfl ?_)
  refine wpAny_bind (listUpdate_at ho rfl ?_ (by rw [List.size_toArray, sizeLine_eq]; omega) (Nat.zero_le _))
  refine wpAny_bind (seqEpoch_at ho1 rfl ?_)
  refine wpAny_bind (wpAny_newTuple ?_ (by show vs.length ≤ _; rw [sizeLine_eq]; omega))
  refine wpAny_bind (wpAny_newList ?_ (Nat.zero_le _))
  refine wpAny_holding ?_
  refine asc_rest (s := { s with heap := ((s.heap.update a (Obj.mapSeq fun _ => (#[] : Array Value))).push (seqObj "tuple" vs.toArray 0)).push (seqObj "list" #[] 0) }) (kS := ((s.heap.update a (Obj.mapSeq fun _ => (#[] : Array Value))).push (seqObj "tuple" vs.toArray 0)).objs.size)
    ((F1.push _).push _) (fun p hp => ?_) (by rw [hkS]; exact Nat.ne_of_gt (Nat.lt_succ_of_lt ha)) (fun p hp => by rw [hkS]; exact Nat.ne_of_lt (Nat.lt_succ_of_lt (Heap.lt_size (N p hp).1))) hna hlen h128 hasc turn h
  rcases List.mem_append.mp hp with hp | hp
  · exact ⟨Heap.get?_push_of_some _ (Heap.get?_push_of_some _ (N1 p hp).1), (N1 p hp).2⟩
  · rcases List.mem_cons.mp hp with rfl | hp
    · exact ⟨Heap.get?_push_size _ rfl, Nat.ne_of_gt hLk, Heap.get?_none_of_le (Nat.le_trans F.above (Nat.le_of_lt hLk))⟩
    · rw [List.mem_singleton.mp hp]
      exact ⟨Heap.get?_push_of_some _ (Heap.get?_push_of_some _ ho1), haL, ha0⟩
/-- the words in the order of their numbers -/
theorem sortedKeys {kvs : List (Str × Value)} {q d : Addr} {o : Obj} {Q : Value → Shared → Prop} (hh : A.handled = none) (F : Fr h₀ L s.heap m) (N : News h₀ L s.heap news) (hp : (d, o) ∈ news) (hq : (q, boundGet d) ∈ news)
    (hd : o.IsDictOf (PySem.strKind prog w) kvs) (lo : (d == sysModules) = false) (hk : NumK kvs) (hn : kvs.length < 128)
    (h : ∀ D h' tk (out : Array Value) c, Fr h₀ L h' m → News h₀ L h' ((D, seqObj "list" out c) :: news) → (∀ p ∈ news, p.1 < D) → out.size = kvs.length → Q (.ref D) { s with heap := h', toks := tk }) :
    wpAny (model prog w) A (call (.builtin "sorted") [.ref d] [(Str.ofString "key", .ref q)]) Q E s := by
  have hD := kda_dict N hp hd
  obtain ⟨ep, hat⟩ := hD.dictAt
  have hnd : (kvs.map (·.1)).Nodup := by obtain ⟨_, _, _, _, _, _, r⟩ := hd; exact r
  refine call_function_entry_kw kind_sorted plain_sorted entry_sorted (ksk_s1 _ _) ?_
  unfold Builtin.«sorted»
  refine wpAny_bind (m := checkCount "sorted" 1 1 _) (wpAny_pure ?_)
  refine wpAny_bind (kdu_collect (A := A.in1) (kdl_dict (knd := PySem.strKind prog w) (kvs := kvs) (ep := ep) lo) hh hat (by rw [sizeLine_eq]; omega) fun h1 tk1 acc hkeep hacc => ?_)
  have hl : acc.toList.length = kvs.length := by rw [Array.length_toList]; exact hacc.1
  refine wpAny_bind (wpAny_newList ?_ (by rw [hl, sizeLine_eq]; omega))
  have F1 := F.keeps hkeep
  have N1 : News h₀ L h1 news := fun p hp => ⟨hkeep _ _ (N p hp).1, (N p hp).2⟩
  have hoL : (h1.push (seqObj "list" acc.toList.toArray 0)).get? h1.objs.size = some (seqObj "list" acc.toList.toArray 0) := Heap.get?_push_size _ rfl
  refine wpAny_bind (wpAny_holding (wpAny_call_entry_kw slot_list_sort ⟨_, hoL, rfl⟩ entry_list_sort ?body (ksk_l1 _ _)))
  case body =>
    show wpAny (model prog w) A.in1.in1 (Builtin.«list.sort» ⟨[.ref h1.objs.size], [(Str.ofString "key", .ref q)]⟩) _ _ _
    rw [ksk_t1]
    refine asc_sort (kz := (List.range kvs.length).map fun (i : Nat) => (i : Int)) (news := news) (vs := acc.toList) (F1.push _) (fun p hp => ⟨Heap.get?_push_of_some _ (N1 p hp).1, (N1 p hp).2⟩) hoL (Nat.ne_of_gt F1.ns.lt) (Heap.get?_none_of_le (Nat.le_trans F1.above (Nat.le_of_lt F1.ns.lt)))
      (fun p hp => Nat.ne_of_lt (Heap.lt_size (N1 p hp).1)) (by simp [hl]) (by omega) (fun i j hij hj => ?_) (fun i v k hv hkz h2 tk2 own F2 N2 => ?_) fun h' tk out c F' N' hout => ⟨_, rfl, ?_⟩
    · rw [hl] at hj
      simp [List.getD_eq_getElem?_getD, show i < kvs.length by omega, hj]
      omega
    · have hi : i < acc.toList.length := (List.getElem?_eq_some_iff.mp hv).1
      rw [hl] at hi
      obtain ⟨y, x, hx, hy⟩ := hacc.2 i v (by rw [← Array.getElem?_toList]; exact hv)
      obtain ⟨t, rfl⟩ := Value.isStrOf_shape hy
      obtain ⟨t', ht'⟩ := hk i _ hx
      have hkk : k = (i : Int) := by simp [hi] at hkz; exact hkz.symm
      dsimp only at ht'
      subst ht' hkk
      exact call_bget (N2.get (List.mem_append_left _ hq)) (N2.get (List.mem_append_left _ hp)) hd lo (valueAt_of_get hnd hx) (KskEnd.intro F2 N2 fun p hp => hp)
    · exact wpAny_pure ⟨_, rfl, h _ h' tk out c F' N' (fun p hp => Heap.lt_size (N1 p hp).1) (by rw [hout, hl])⟩
end
end Mine
/-! T31 -/
namespace Mine
theorem start_T31 : True := by
  w_top off
  trivial
/-- a call that changes the object b alone, or raises; x and b are the caller's own -/
def TellX (w : World) (k : Nat) (f x b : Addr) (vs : List Value) (P : Heap → Prop) (R : Heap → Heap → Value → Prop) (X : Str → Value → Prop) : Prop :=
  ∀ (mean : ExcName → Option Value) (mg mb : Str → Option Value) (dp un : Nat) (gd : Option (List Code)) (l : List Env) (base g : Heap) (gs : Array GenState) (dr : Drawn) (tk : Nat) (os : OsState) (Q E : Value → Shared → Prop),
    Below (ctx dp un gd l) base l g → (_root_.MineH.hd.heap_1 w.params).In base → Top _root_.MineH.hd.view_39 (looseW _root_.MineH.hd.view_39 [Str.ofString "BasicError", Str.ofString "PAIRS"]) mean mg mb base → base.get? x = none → base.get? b = none → x ∉ l.filterMap (·.frame) → b ∉ l.filterMap (·.frame) → dp + k < recursionLimit → un + 10 * k < cLine → P g →
    (∀ v h' tk', (∀ a o, g.get? a = some o → a ≠ b → h'.get? a = some o) → R g h' v → Q v ⟨h', gs, dr, tk', os⟩) →
    (∀ e h' tk' c v, X c v → Fly w base (hideAll g [x, b]) l e c v h' → (hideAll g [x, b]).UpToSlots h' → E (.ref e) ⟨h', gs, dr, tk', os⟩) →
    wpAny (model PySem.Challenge.rw_pq0143_01.prog w) (ctx dp un gd l) (call (.ref f) vs) Q E ⟨g, gs, dr, tk, os⟩
theorem staysX_of {x b : Addr} {g h' : Heap} {ox : Obj} (hx : g.get? x = some ox) (hx' : h'.get? x = some ox) (k : ∀ a o, (hideAll g [x, b]).get? a = some o → h'.get? a = some o) : ∀ a o, g.get? a = some o → a ≠ b → h'.get? a = some o := fun a o e ne => by
  by_cases q : a = x
  · rw [q] at e ⊢; rw [hx] at e; cases e; exact hx'
  · exact k a o (hideAll_get _ e (by simp [q, ne]))
theorem TellX.use {w : World} {k : Nat} {f x b : Addr} {vs : List Value} {P : Heap → Prop} {R : Heap → Heap → Value → Prop} {X : Str → Value → Prop} {mean : ExcName → Option Value} {mg mb : Str → Option Value} {dp un : Nat} {gd : Option (List Code)} {cn : Str} {cs : Scope} {L a : Addr} {ccd : Value} {cl : List (Str × Addr)}
    {A₀ : Around} {outer : List Env} {base g : Heap} {m : Str → Option Value} {ox ob : Obj} {s : Shared} {Q E : Value → Shared → Prop}
    (C : TellX w k f x b vs P R X) (B : Below A₀ base outer g) (F : Fr g L s.heap m) {all : List (Addr × Obj)} (N : News g L s.heap all) (hx : (x, ox) ∈ all) (hm : (b, ob) ∈ all) (XB : (_root_.MineH.hd.heap_1 w.params).In base) (TB : Top _root_.MineH.hd.view_39 (looseW _root_.MineH.hd.view_39 [Str.ofString "BasicError", Str.ofString "PAIRS"]) mean mg mb base) (hk : cs.kind = .function)
    (hd : dp + k < recursionLimit) (hu : un + 10 * k < cLine) (hp : P s.heap)
    (ret : ∀ v h' tk', (∀ a, s.heap.get? a = none → g.get? a = none ∧ AllNe a all) → Fr g L h' m → (∀ ob' all', h'.get? b = some ob' → Upd b ob ob' all all' → News g L h' all') → R s.heap h' v → Q v { s with heap := h', toks := tk' })
    (rai : ∀ e h' tk' c v, X c v → Fr g L (hideAll s.heap [x, b]) m → Fly w base (hideAll s.heap [x, b]) (envX cn cs L a ccd cl :: outer) e c v h' → (hideAll s.heap [x, b]).UpToSlots h' → E (.ref e) { s with heap := h', toks := tk' }) :
    wpAny (model PySem.Challenge.rw_pq0143_01.prog w) (ctx dp un gd (envX cn cs L a ccd cl :: outer)) (call (.ref f) vs) Q E s := by
  obtain ⟨h, gs, dr, tk, os⟩ := s
  have B' := pushX (env := envX cn cs L a ccd cl) B F rfl hk
  have frames : (envX cn cs L a ccd cl :: outer).filterMap (·.frame) = L :: outer.filterMap (·.frame) := rfl
  have out : ∀ p ∈ all, p.1 ∉ (envX cn cs L a ccd cl :: outer).filterMap (·.frame) := fun p hp => by
    obtain ⟨nb1, nb2, nb3⟩ := N p hp
    rw [frames]
    intro hm
    rcases List.mem_cons.mp hm with q | hm
    · exact nb2 q
    · obtain ⟨_, o, ho, _⟩ := B.frames.mem hm
      rw [nb3] at ho; cases ho
  obtain ⟨nb1, nb2, nb3⟩ := N (b, ob) hm
  obtain ⟨nx1, nx2, nx3⟩ := N (x, ox) hx
  dsimp only at nb1 nb2 nb3 nx1 nx2 nx3
  have hLb : L ≠ b := fun q => nb2 q.symm
  have hLx : L ≠ x := fun q => nx2 q.symm
  have keepG : ∀ a o, g.get? a = some o → a ∉ [x, b] := fun a o e q => by
    simp at q
    rcases q with q | q
    · rw [q, nx3] at e; cases e
    · rw [q, nb3] at e; cases e
  refine C mean mg mb dp un gd _ base h gs dr tk os Q E ⟨rfl, B'.stays, B'.frames⟩ XB TB (fresh_of_stays B.stays nx3) (fresh_of_stays B.stays nb3) (out _ hx) (out _ hm) hd hu hp (fun v h' tk' st r => ?_) (fun e h' tk' c v x' fl up => ?_)
  · refine ret v h' tk' (fun a ha => ⟨kts_none F.keep ha, allNe_of fun p hp q => by
      have := N.get hp; rw [q, ha] at this; cases this⟩) ⟨?_, fun a o e => st a o (F.keep a o e) (fun q => by rw [q, nb3] at e; cases e), F.above⟩ (fun ob' all' hob' U p hp => ?_) r
    · obtain ⟨oL, es, ep, hL, hd, q⟩ := F.ns
      exact ⟨oL, es, ep, st _ _ hL hLb, hd, q⟩
    · obtain ⟨pre, post, rfl, rfl, n1, n2⟩ := U.split
      rcases List.mem_append.mp hp with hp | hp
      · obtain ⟨m1, m2, m3⟩ := N p (List.mem_append_left _ hp)
        exact ⟨st _ _ m1 (n1 p hp), m2, m3⟩
      · rcases List.mem_cons.mp hp with rfl | hp
        · exact ⟨hob', nb2, nb3⟩
        · obtain ⟨m1, m2, m3⟩ := N p (List.mem_append_right _ (.tail _ hp))
          exact ⟨st _ _ m1 (n2 p hp), m2, m3⟩
  · refine rai e h' tk' c v x' ⟨?_, fun a o e => hideAll_get _ (F.keep a o e) (keepG a o e), F.above⟩ fl up
    obtain ⟨oL, es, ep, hL, hd, q⟩ := F.ns
    exact ⟨oL, es, ep, hideAll_get _ hL (by simp; exact ⟨hLx, hLb⟩), hd, q⟩
section
variable {A : Around} {base g h : Heap} {outer : List Env} {L x b : Addr} {m : Str → Option Value} {news : List (Addr × Obj)} {ox ob : Obj}
theorem hide2_news (F : Fr g L h m) (N : News g L h news) (ex : g.get? x = some ox) (eb : g.get? b = some ob) (ne : x ≠ b) : News (hideAll g [x, b]) L h ((b, ob) :: (x, ox) :: news) :=
  hide_news (g := hideAll g [x]) (hide_fr F) (hide_news F N ex) (hideAll_get _ eb (by simp; exact Ne.symm ne))
theorem hide2_fr (F : Fr g L h m) : Fr (hideAll g [x, b]) L h m := hide_fr (g := hideAll g [x]) (hide_fr F)
theorem hide2_below (B : Below A base outer g) (hx : base.get? x = none) (hb : base.get? b = none) (fx : x ∉ outer.filterMap (·.frame)) (fb : b ∉ outer.filterMap (·.frame)) : Below A base outer (hideAll g [x, b]) :=
  hide_below (g := hideAll g [x]) (hide_below B hx fx) hb fb
end
end Mine
/-! T32 -/
namespace Mine
theorem start_T32 : True := by
  w_top off
  trivial
abbrev rdDict (w : World) (ol : Addr) (a : Nat) (t1 t2 ta : Tok) : Obj := dictOf [⟨PyData.keyHash w.params "octets", .str "octets" t1, .ref ol⟩, ⟨PyData.keyHash w.params "at", .str "at" t2, .int a ta⟩] 2
def RdAt (w : World) (g : Heap) (b ol : Addr) (a : Nat) : Prop := ∃ t1 t2 ta, g.get? b = some (rdDict w ol a t1 t2 ta)
def Rd (w : World) (g : Heap) (x b ol : Addr) (os : List Int) (a : Nat) : Prop := g.get? x = some (instObj 252 b) ∧ RdAt w g b ol a ∧ SL g ol os ∧ x ≠ b ∧ ol ≠ x ∧ ol ≠ b
theorem hide2_list {g : Heap} {x b sl : Addr} {vs : Array Value} (h : g.IsList sl vs) (nx : sl ≠ x) (ne : sl ≠ b) : (hideAll g [x, b]).IsList sl vs := let ⟨o, e, r⟩ := h; ⟨o, hideAll_get _ e (by simp [nx, ne]), r⟩
section

theorem take (w : World) (x b ol : Addr) (os : List Int) (a : Nat) (ho : os.length ≤ 40) (ha : a ≤ 40) : TellX w 30 228 x b [.ref x] (fun g => Rd w g x b ol os a) (fun _ h' v => RdAt w h' b ol (a+1) ∧ ∃ z t, os[a]? = some z ∧ v = .int z t) (fun c v => os[a]? = none ∧ c = "SN" ∧ ∃ t, v = .int a t) := by
  unfold TellX
  intro mean mg mb dp un gd l base g gs dr tk os Q E B XB TB hbx hbb hfx hfb hd' hu hP ret rai
  revert XB; k_fill; intro XB
  have cLi := cLine_is
  have reci : recursionLimit = 1000 := rfl
  refine wpAny_call ?_
  k_dflt (refine' enterP (l0 := [("self", _)]) ?k1 ?k2 ?k3 ?k6 ?k7 ?k8 ?k9 ?kl ?kB ?_ ?c2 ?c3 ?c4 ?c5; (case k1 => exact B); (case k2 => exact XB); (case k3 => exact TB); (case k6 => k_is); (case k7 => k_is); (case k8 => exact roomZ hd'); (case k9 => exact BindsTo.of_eq rfl); (case kl => exact rfl); (case c5 => decide); (case kB => exact locs rfl); (case c2 => exact rfl); (case c3 => exact rfl); (case c4 => exact rfl); k_whole)
  intro L' h' tk0 F' N' X T
  dsimp only
  k_fold
  obtain ⟨hgx, ⟨t1, t2, ta, hgb⟩, ⟨vs, hl, hi⟩, nxb, nox, nob⟩ := hP
  have F1 := hide2_fr (x := x) (b := b) F'; have N1 := hide2_news F' N' hgx hgb nxb; have B1 := hide2_below B hbx hbb hfx hfb; have X1 := XB.keeps B1.stays; have T1 := TB.keeps B1.stays; clear F' N' B X T
  have hl1 := hide2_list hl nox nob
  clear hl
  (k_with_none; (k_with "ne" => (first | exact ne_gt (by with_reducible assumption) | exact ne_lt (by with_reducible assumption) | with_reducible assumption | exact Ne.symm (by with_reducible assumption) | exact ne_gt (And.left (by with_reducible assumption)) | exact ne_gt (And.left (And.right (by with_reducible assumption))) | exact ne_gt (And.right (by with_reducible assumption)) | exact ne_gt (And.right (And.right (by with_reducible assumption))) | exact ne_lt (And.left (by with_reducible assumption)) | exact ne_lt (And.left (And.right (by with_reducible assumption))) | exact ne_lt (And.right (by with_reducible assumption)) | exact ne_lt (And.right (And.right (by with_reducible assumption))))); (k_with "call ref" => refine hold34 ?_); (k_with "exec Raise some none" => refine Raise_be rfl ?_); k_steps; repeat' ((first | (unfold CHold; (k_dflt (refine' mkBE _ _ _ _ _ _ _ _ _ _ _ _ _ _ _ _ _ _ _ _ _ _ _ _ _ ?B ?F ?X ?N ?T ?hk ?hd ?hu ?_; (case B => k_asm); (case F => k_asm); (case X => k_asm); (case N => k_asm); (case T => k_asm); (case hk => exact rfl); (case hd => first | exact roomD (by assumption) (by decide) | ((try dsimp only [ctx] at *); omega)); (case hu => first | exact roomC (by assumption) (by decide) | exact roomU (by assumption) (by decide) | ((try dsimp only [ctx] at *); omega)); k_whole); intro x8 d8 t8 h8 k8 u8 v8 F8 N8 e8 n8; (try k_sweep); (try dsimp only)))); k_steps))
  · (refine ⟨_, _, _, rfl, X1.keeps (Fr.keep (by k_asm)), News.get (by k_asm) (.tail _ (.head _)), ?_⟩; (try k_unfold); (try dsimp only); refine leave_made B1 (by k_asm) (by k_asm) (by assumption) fun hh1 fl1 sm1 => ?_; refine rai _ _ _ _ _ ?_ fl1 sm1)
    exact ⟨List.getElem?_eq_none (by omega), rfl, _, rfl⟩
  · ((try dsimp only); (try (first | k_unfold | dsimp only [qk])); (try dsimp only); unfold LeaveP; dsimp only; refine ret _ _ _ (staysX_of hgx (News.get (by k_asm) (by k_mem)) (Fr.keep (by k_asm))) ?_; try dsimp only)
    refine ⟨⟨_, _, _, News.get (by k_asm) (by k_mem)⟩, _, _, ?_, rfl⟩
    rename (¬ (_ : Int) ≤ _) => hlt
    have e : ((a : Int) + 1 - 1).toNat = a := by omega
    rw [e, List.getD_eq_getElem?_getD, List.getElem?_eq_getElem (by omega)]
    rfl
end
end Mine
/-! T33 -/
namespace Mine
theorem start_T33 : True := by
  w_top off
  trivial
theorem rd_of {w : World} {G h : Heap} {L x b ol : Addr} {m : Str → Option Value} {all : List (Addr × Obj)} {a : Nat} {t1 t2 ta : Tok} {os : List Int} (F : Fr G L h m) (N : News G L h all) (hx : (x, instObj 252 b) ∈ all) (hb : (b, rdDict w ol a t1 t2 ta) ∈ all) (hl : SL G ol os) : Rd w h x b ol os a := by
  obtain ⟨x1, x2, x3⟩ := N _ hx
  obtain ⟨b1, b2, b3⟩ := N _ hb
  obtain ⟨vs, ⟨o, e, r⟩, hi⟩ := hl
  dsimp only at x1 x2 x3 b1 b2 b3
  refine ⟨x1, ⟨_, _, _, b1⟩, ⟨vs, ⟨o, F.keep _ _ e, r⟩, hi⟩, ?_, ?_, ?_⟩
  · rintro rfl; rw [x1] at b1; cases b1
  · rintro rfl; rw [x3] at e; cases e
  · rintro rfl; rw [b3] at e; cases e
theorem rd_of0 {w : World} {G h : Heap} {L x b ol : Addr} {m : Str → Option Value} {all : List (Addr × Obj)} {t1 t2 ta : Tok} {os : List Int} (F : Fr G L h m) (N : News G L h all) (hx : (x, instObj 252 b) ∈ all)
    (hb : (b, dictOf [⟨PyData.keyHash w.params "octets", .str "octets" t1, .ref ol⟩, ⟨PyData.keyHash w.params "at", .str "at" t2, .int 0 ta⟩] 2) ∈ all) (hl : SL G ol os) : Rd w h x b ol os 0 := rd_of (ta := ta) (t1 := t1) (t2 := t2) F N hx hb hl
section
variable {w : World} {k : Nat} {f x b ol : Addr} {vs : List Value} {P : Heap → Prop} {mean : ExcName → Option Value} {mg mb : Str → Option Value} {dp un : Nat} {gd : Option (List Code)} {cn : Str} {cs : Scope} {L a : Addr} {ccd : Value} {cl : List (Str × Addr)}
  {A₀ : Around} {outer : List Env} {base g h : Heap} {m : Str → Option Value} {ox ob : Obj} {all : List (Addr × Obj)} {gs : Array GenState} {dr : Drawn} {tk : Nat} {os : OsState} {Q E : Value → Shared → Prop}
/-- a read sign: its place moves on, or the list is at its end -/
theorem TellX.useI {a' : Nat} {p : Int → Prop} {n : Prop} {z0 : Int} {all' : Tok → Tok → Tok → List (Addr × Obj)} (C : TellX w k f x b vs P (fun _ h' v => RdAt w h' b ol a' ∧ ∃ z t, p z ∧ v = .int z t) (fun c v => n ∧ c = "SN" ∧ ∃ t, v = .int z0 t))
    (B : Below A₀ base outer g) (F : Fr g L h m) (N : News g L h all) (hx : (x, ox) ∈ all) (hm : (b, ob) ∈ all) (XB : (_root_.MineH.hd.heap_1 w.params).In base) (TB : Top _root_.MineH.hd.view_39 (looseW _root_.MineH.hd.view_39 [Str.ofString "BasicError", Str.ofString "PAIRS"]) mean mg mb base) (hk : cs.kind = .function) (hd : dp + k < recursionLimit) (hu : un + 10 * k < cLine) (hp : P h)
    (U : ∀ t1 t2 ta, Upd b ob (rdDict w ol a' t1 t2 ta) all (all' t1 t2 ta))
    (ret : ∀ h' tk' z t t1 t2 ta, p z → Fr g L h' m → News g L h' (all' t1 t2 ta) → Q (.int z t) ⟨h', gs, dr, tk', os⟩)
    (rai : ∀ e h' tk' t, n → Fr g L (hideAll h [x, b]) m → Fly w base (hideAll h [x, b]) (envX cn cs L a ccd cl :: outer) e "SN" (.int z0 t) h' → (hideAll h [x, b]).UpToSlots h' → E (.ref e) ⟨h', gs, dr, tk', os⟩) :
    CHold (wpAny (model PySem.Challenge.rw_pq0143_01.prog w) (ctx dp un gd (envX cn cs L a ccd cl :: outer)) (call (.ref f) vs) Q E ⟨h, gs, dr, tk, os⟩) :=
  mkC <| TellX.use C B F N hx hm XB TB hk hd hu hp (fun v h' tk' u F' N' r => by
    obtain ⟨⟨t1, t2, ta, e⟩, z, t, q, rfl⟩ := r
    exact ret h' tk' z t t1 t2 ta q F' (N' _ _ e (U t1 t2 ta))) (fun e h' tk' c v x F' fl up => by
    obtain ⟨q, rfl, t, rfl⟩ := x
    exact rai e h' tk' t q F' fl up)
theorem TellX.useO {a' : Nat} {z : Int} {all' : Tok → Tok → Tok → List (Addr × Obj)} (C : TellX w k f x b vs P (fun _ h' v => RdAt w h' b ol a' ∧ ∃ t, v = .int z t) (fun _ _ => False))
    (B : Below A₀ base outer g) (F : Fr g L h m) (N : News g L h all) (hx : (x, ox) ∈ all) (hm : (b, ob) ∈ all) (XB : (_root_.MineH.hd.heap_1 w.params).In base) (TB : Top _root_.MineH.hd.view_39 (looseW _root_.MineH.hd.view_39 [Str.ofString "BasicError", Str.ofString "PAIRS"]) mean mg mb base) (hk : cs.kind = .function) (hd : dp + k < recursionLimit) (hu : un + 10 * k < cLine) (hp : P h)
    (U : ∀ t1 t2 ta, Upd b ob (rdDict w ol a' t1 t2 ta) all (all' t1 t2 ta))
    (ret : ∀ h' tk' t t1 t2 ta, Fr g L h' m → News g L h' (all' t1 t2 ta) → Q (.int z t) ⟨h', gs, dr, tk', os⟩) :
    CHold (wpAny (model PySem.Challenge.rw_pq0143_01.prog w) (ctx dp un gd (envX cn cs L a ccd cl :: outer)) (call (.ref f) vs) Q E ⟨h, gs, dr, tk, os⟩) :=
  mkC <| TellX.use C B F N hx hm XB TB hk hd hu hp (fun v h' tk' u F' N' r => by
    obtain ⟨⟨t1, t2, ta, e⟩, t, rfl⟩ := r
    exact ret h' tk' t t1 t2 ta F' (N' _ _ e (U t1 t2 ta))) (fun e h' tk' c v x F' fl up => x.elim)
theorem TellX.useErr {z0 : Int} (C : TellX w k f x b vs P (fun _ _ _ => False) (fun c v => c = "SN" ∧ ∃ t, v = .int z0 t))
    (B : Below A₀ base outer g) (F : Fr g L h m) (N : News g L h all) (hx : (x, ox) ∈ all) (hm : (b, ob) ∈ all) (XB : (_root_.MineH.hd.heap_1 w.params).In base) (TB : Top _root_.MineH.hd.view_39 (looseW _root_.MineH.hd.view_39 [Str.ofString "BasicError", Str.ofString "PAIRS"]) mean mg mb base) (hk : cs.kind = .function) (hd : dp + k < recursionLimit) (hu : un + 10 * k < cLine) (hp : P h)
    (rai : ∀ e h' tk' t, Fr g L (hideAll h [x, b]) m → Fly w base (hideAll h [x, b]) (envX cn cs L a ccd cl :: outer) e "SN" (.int z0 t) h' → (hideAll h [x, b]).UpToSlots h' → E (.ref e) ⟨h', gs, dr, tk', os⟩) :
    CHold (wpAny (model PySem.Challenge.rw_pq0143_01.prog w) (ctx dp un gd (envX cn cs L a ccd cl :: outer)) (call (.ref f) vs) Q E ⟨h, gs, dr, tk, os⟩) :=
  mkC <| TellX.use C B F N hx hm XB TB hk hd hu hp (fun v h' tk' u F' N' r => r.elim) (fun e h' tk' c v x F' fl up => by
    obtain ⟨rfl, t, rfl⟩ := x
    exact rai e h' tk' t F' fl up)
theorem TellX.useErrN {n : Nat → Prop} (C : TellX w k f x b vs P (fun _ _ _ => False) (fun c v => ∃ p t, n p ∧ c = "SN" ∧ v = .int (p : Nat) t))
    (B : Below A₀ base outer g) (F : Fr g L h m) (N : News g L h all) (hx : (x, ox) ∈ all) (hm : (b, ob) ∈ all) (XB : (_root_.MineH.hd.heap_1 w.params).In base) (TB : Top _root_.MineH.hd.view_39 (looseW _root_.MineH.hd.view_39 [Str.ofString "BasicError", Str.ofString "PAIRS"]) mean mg mb base) (hk : cs.kind = .function) (hd : dp + k < recursionLimit) (hu : un + 10 * k < cLine) (hp : P h)
    (rai : ∀ e h' tk' p t, n p → Fr g L (hideAll h [x, b]) m → Fly w base (hideAll h [x, b]) (envX cn cs L a ccd cl :: outer) e "SN" (.int (p : Nat) t) h' → (hideAll h [x, b]).UpToSlots h' → E (.ref e) ⟨h', gs, dr, tk', os⟩) :
    CHold (wpAny (model PySem.Challenge.rw_pq0143_01.prog w) (ctx dp un gd (envX cn cs L a ccd cl :: outer)) (call (.ref f) vs) Q E ⟨h, gs, dr, tk, os⟩) :=
  mkC <| TellX.use C B F N hx hm XB TB hk hd hu hp (fun v h' tk' u F' N' r => r.elim) (fun e h' tk' c v x F' fl up => by
    obtain ⟨p, t, q, rfl, rfl⟩ := x
    exact rai e h' tk' p t q F' fl up)
/-- a text is read -/
theorem TellX.useS {q : Nat → Str → Prop} {n : Nat → Prop} {all' : Nat → Tok → Tok → Tok → List (Addr × Obj)} (C : TellX w k f x b vs P (fun _ h' v => ∃ a' u t, RdAt w h' b ol a' ∧ q a' u ∧ v = .str u t) (fun c v => ∃ p t, n p ∧ c = "SN" ∧ v = .int (p : Nat) t))
    (B : Below A₀ base outer g) (F : Fr g L h m) (N : News g L h all) (hx : (x, ox) ∈ all) (hm : (b, ob) ∈ all) (XB : (_root_.MineH.hd.heap_1 w.params).In base) (TB : Top _root_.MineH.hd.view_39 (looseW _root_.MineH.hd.view_39 [Str.ofString "BasicError", Str.ofString "PAIRS"]) mean mg mb base) (hk : cs.kind = .function) (hd : dp + k < recursionLimit) (hu : un + 10 * k < cLine) (hp : P h)
    (U : ∀ a' t1 t2 ta, Upd b ob (rdDict w ol a' t1 t2 ta) all (all' a' t1 t2 ta))
    (ret : ∀ h' tk' a' u t t1 t2 ta, q a' u → Fr g L h' m → News g L h' (all' a' t1 t2 ta) → Q (.str u t) ⟨h', gs, dr, tk', os⟩)
    (rai : ∀ e h' tk' p t, n p → Fr g L (hideAll h [x, b]) m → Fly w base (hideAll h [x, b]) (envX cn cs L a ccd cl :: outer) e "SN" (.int (p : Nat) t) h' → (hideAll h [x, b]).UpToSlots h' → E (.ref e) ⟨h', gs, dr, tk', os⟩) :
    CHold (wpAny (model PySem.Challenge.rw_pq0143_01.prog w) (ctx dp un gd (envX cn cs L a ccd cl :: outer)) (call (.ref f) vs) Q E ⟨h, gs, dr, tk, os⟩) :=
  mkC <| TellX.use C B F N hx hm XB TB hk hd hu hp (fun v h' tk' u F' N' r => by
    obtain ⟨a', u, t, ⟨t1, t2, ta, e⟩, q, rfl⟩ := r
    exact ret h' tk' a' u t t1 t2 ta q F' (N' _ _ e (U a' t1 t2 ta))) (fun e h' tk' c v x F' fl up => by
    obtain ⟨p, t, q, rfl, rfl⟩ := x
    exact rai e h' tk' p t q F' fl up)
/-- a token is read -/
theorem TellX.useK {q : Nat → Str → Prop} {n : Nat → Prop} {o : Str → Tok → Obj} {all' : Nat → Tok → Tok → Tok → List (Addr × Obj)} (C : TellX w k f x b vs P (fun g h' v => ∃ a' u, RdAt w h' b ol a' ∧ q a' u ∧ ∃ tp t, v = .ref tp ∧ g.get? tp = none ∧ h'.get? tp = some (o u t)) (fun c v => ∃ p t, n p ∧ c = "SN" ∧ v = .int (p : Nat) t))
    (B : Below A₀ base outer g) (F : Fr g L h m) (N : News g L h all) (hx : (x, ox) ∈ all) (hm : (b, ob) ∈ all) (XB : (_root_.MineH.hd.heap_1 w.params).In base) (TB : Top _root_.MineH.hd.view_39 (looseW _root_.MineH.hd.view_39 [Str.ofString "BasicError", Str.ofString "PAIRS"]) mean mg mb base) (hk : cs.kind = .function) (hd : dp + k < recursionLimit) (hu : un + 10 * k < cLine) (hp : P h)
    (U : ∀ a' t1 t2 ta, Upd b ob (rdDict w ol a' t1 t2 ta) all (all' a' t1 t2 ta)) (hno : ∀ u t es n, (o u t).data ≠ .dict es n)
    (ret : ∀ h' tk' a' u tp t t1 t2 ta, q a' u → Fr g L h' m → News g L h' ((tp, o u t) :: all' a' t1 t2 ta) → AllNe tp all → Q (.ref tp) ⟨h', gs, dr, tk', os⟩)
    (rai : ∀ e h' tk' p t, n p → Fr g L (hideAll h [x, b]) m → Fly w base (hideAll h [x, b]) (envX cn cs L a ccd cl :: outer) e "SN" (.int (p : Nat) t) h' → (hideAll h [x, b]).UpToSlots h' → E (.ref e) ⟨h', gs, dr, tk', os⟩) :
    CHold (wpAny (model PySem.Challenge.rw_pq0143_01.prog w) (ctx dp un gd (envX cn cs L a ccd cl :: outer)) (call (.ref f) vs) Q E ⟨h, gs, dr, tk, os⟩) :=
  mkC <| TellX.use C B F N hx hm XB TB hk hd hu hp (fun v h' tk' uu F' N' r => by
    obtain ⟨a', u, ⟨t1, t2, ta, e⟩, q, tp, t, rfl, n1, g1⟩ := r
    exact ret h' tk' a' u tp t t1 t2 ta q F' (News.more F' (N' _ _ e (U a' t1 t2 ta)) g1 (hno u t) (uu _ n1).1) (uu _ n1).2) (fun e h' tk' c v x F' fl up => by
    obtain ⟨p, t, q, rfl, rfl⟩ := x
    exact rai e h' tk' p t q F' fl up)
/-- a sign's token is read -/
theorem TellX.useN {c0 : Prop} {a' : Nat} {n : Nat → Prop} {o : Tok → Obj} {all' : Tok → Tok → Tok → List (Addr × Obj)} (C : TellX w k f x b vs P (fun g h' v => c0 ∧ RdAt w h' b ol a' ∧ ∃ tp t, v = .ref tp ∧ g.get? tp = none ∧ h'.get? tp = some (o t)) (fun c v => ∃ p t, n p ∧ c = "SN" ∧ v = .int (p : Nat) t))
    (B : Below A₀ base outer g) (F : Fr g L h m) (N : News g L h all) (hx : (x, ox) ∈ all) (hm : (b, ob) ∈ all) (XB : (_root_.MineH.hd.heap_1 w.params).In base) (TB : Top _root_.MineH.hd.view_39 (looseW _root_.MineH.hd.view_39 [Str.ofString "BasicError", Str.ofString "PAIRS"]) mean mg mb base) (hk : cs.kind = .function) (hd : dp + k < recursionLimit) (hu : un + 10 * k < cLine) (hp : P h)
    (U : ∀ t1 t2 ta, Upd b ob (rdDict w ol a' t1 t2 ta) all (all' t1 t2 ta)) (hno : ∀ t es n, (o t).data ≠ .dict es n)
    (ret : ∀ h' tk' tp t t1 t2 ta, c0 → Fr g L h' m → News g L h' ((tp, o t) :: all' t1 t2 ta) → AllNe tp all → Q (.ref tp) ⟨h', gs, dr, tk', os⟩)
    (rai : ∀ e h' tk' p t, n p → Fr g L (hideAll h [x, b]) m → Fly w base (hideAll h [x, b]) (envX cn cs L a ccd cl :: outer) e "SN" (.int (p : Nat) t) h' → (hideAll h [x, b]).UpToSlots h' → E (.ref e) ⟨h', gs, dr, tk', os⟩) :
    CHold (wpAny (model PySem.Challenge.rw_pq0143_01.prog w) (ctx dp un gd (envX cn cs L a ccd cl :: outer)) (call (.ref f) vs) Q E ⟨h, gs, dr, tk, os⟩) :=
  mkC <| TellX.use C B F N hx hm XB TB hk hd hu hp (fun v h' tk' uu F' N' r => by
    obtain ⟨q, ⟨t1, t2, ta, e⟩, tp, t, rfl, n1, g1⟩ := r
    exact ret h' tk' tp t t1 t2 ta q F' (News.more F' (N' _ _ e (U t1 t2 ta)) g1 (hno t) (uu _ n1).1) (uu _ n1).2) (fun e h' tk' c v x F' fl up => by
    obtain ⟨p, t, q, rfl, rfl⟩ := x
    exact rai e h' tk' p t q F' fl up)
end
theorem hide2_sl {g : Heap} {x b sl : Addr} {os : List Int} (h : SL g sl os) (nx : sl ≠ x) (ne : sl ≠ b) : SL (hideAll g [x, b]) sl os := let ⟨vs, h1, h2⟩ := h; ⟨vs, hide2_list h1 nx ne, h2⟩
def numS (os : List Int) : Nat → Nat → Int → Int → Except Nat (Int × Nat)
  | 0, a, _, _ => .error a
  | n+1, a, f, u => match os[a]? with
    | none => .error a
    | some o => if o < 128 then .ok (f + o.fmod 128 * u, a + 1) else numS os n (a + 1) (f + o.fmod 128 * u) (u * 128)
def NHold (P : Prop) : Prop := P
theorem holdN {P : Prop} (h : NHold P) : P := h
theorem map_none {c b o t : Str} (C B : Option Value) (l : List (Str × Value)) (ho : l.lookup o = none) (ht : l.lookup t = none) : (fun y => if y = c then C else if y = b then B else List.lookup y l) = fun y => if y = c then C else if y = b then B else if y = o then none else if y = t then none else List.lookup y l := by
  funext y
  by_cases e : y = o
  · subst e; rw [if_pos rfl, ho]
  · rw [if_neg e]
    by_cases e : y = t
    · subst e; rw [if_pos rfl, ht]
    · rw [if_neg e]
theorem map_turn {c b o t : Str} (h1 : t ≠ c) (h2 : t ≠ b) (h3 : t ≠ o) (C B O T K : Option Value) (f : Str → Option Value) : (fun y => if y = t then K else if y = c then C else if y = b then B else if y = o then O else if y = t then T else f y) = fun y => if y = c then C else if y = b then B else if y = o then O else if y = t then K else f y := by
  funext y
  by_cases e : y = t
  · subst e; rw [if_pos rfl, if_neg h1, if_neg h2, if_neg h3, if_pos rfl]
  · simp only [if_neg e]
theorem map_body {c b o : Str} (C B O C' B' O' : Option Value) (f : Str → Option Value) : (fun y => if y = c then C' else if y = b then B' else if y = o then O' else if y = c then C else if y = b then B else if y = o then O else f y) = fun y => if y = c then C' else if y = b then B' else if y = o then O' else f y := by
  funext y
  by_cases e1 : y = c
  · simp only [if_pos e1]
  · by_cases e2 : y = b
    · simp only [if_neg e1, if_pos e2]
    · by_cases e3 : y = o
      · simp only [if_neg e1, if_neg e2, if_pos e3]
      · simp only [if_neg e1, if_neg e2, if_neg e3]
theorem small4 : Builtin.Range.small 0 4 1 = true := by decide
section


local macro_rules | `(tactic| walk_at "pyIter ref") => `(tactic| refine holdN ?_)

theorem number (w : World) (x b ol : Addr) (ls : List Int) (a : Nat) (ho : ls.length ≤ 40) (ha : a ≤ 30) : TellX w 40 235 x b [.ref x] (fun g => Rd w g x b ol ls a) (fun _ h' v => ∃ a', RdAt w h' b ol a' ∧ ∃ z t, numS ls 4 a 0 1 = .ok (z, a') ∧ a' ≤ a + 4 ∧ v = .int z t) (fun c v => ∃ p t, numS ls 4 a 0 1 = .error p ∧ c = "SN" ∧ v = .int (p : Nat) t) := by
  unfold TellX
  intro mean mg mb dp un gd l base g gs dr tk os Q E B XB TB hbx hbb hfx hfb hd' hu hP ret rai
  revert XB; k_fill; intro XB
  have cLi := cLine_is
  have reci : recursionLimit = 1000 := rfl
  refine wpAny_call ?_
  k_dflt (refine' enterP (l0 := [("self", _)]) ?k1 ?k2 ?k3 ?k6 ?k7 ?k8 ?k9 ?kl ?kB ?_ ?c2 ?c3 ?c4 ?c5; (case k1 => exact B); (case k2 => exact XB); (case k3 => exact TB); (case k6 => k_is); (case k7 => k_is); (case k8 => exact roomZ hd'); (case k9 => exact BindsTo.of_eq rfl); (case kl => exact rfl); (case c5 => decide); (case kB => exact locs rfl); (case c2 => exact rfl); (case c3 => exact rfl); (case c4 => exact rfl); k_whole)
  intro L' h' tk0 F' N' X T
  dsimp only
  k_fold
  obtain ⟨hgx, ⟨t1, t2, ta, hgb⟩, hl, nxb, nox, nob⟩ := hP
  have F1 := hide2_fr (x := x) (b := b) F'; have N1 := hide2_news F' N' hgx hgb nxb; have B1 := hide2_below B hbx hbb hfx hfb; have X1 := XB.keeps B1.stays; have T1 := TB.keeps B1.stays; clear F' N' B X T
  have hl1 := hide2_sl hl nox nob
  clear hl
  (k_with_none; (k_with "ne" => (first | exact ne_gt (by with_reducible assumption) | exact ne_lt (by with_reducible assumption) | with_reducible assumption | exact Ne.symm (by with_reducible assumption) | exact ne_gt (And.left (by with_reducible assumption)) | exact ne_gt (And.left (And.right (by with_reducible assumption))) | exact ne_gt (And.right (by with_reducible assumption)) | exact ne_gt (And.right (And.right (by with_reducible assumption))) | exact ne_lt (And.left (by with_reducible assumption)) | exact ne_lt (And.left (And.right (by with_reducible assumption))) | exact ne_lt (And.right (by with_reducible assumption)) | exact ne_lt (And.right (And.right (by with_reducible assumption))))); (k_with "call ref" => refine hold34 ?_); (k_with "exec Raise some none" => refine Raise_be rfl ?_); (k_with "call ref" => refine hold228 ?_); (k_with "exec For Name Call cons nil" => ((rename Fr _ _ _ _ => lF9); (with_unfolding_all refine' For_invVF lF9 ?k1Kw ?k2Kw ?_); (case k1Kw => exact rfl); (case k2Kw => exact rfl); k_whole)); k_steps; repeat' ((first | (k_dflt (refine' TellX.useI (take _ _ _ _ _ _ ?q1 ?q2) ?B ?F ?N ?hx ?hm ?XB ?TB ?hk ?hd ?hu ?hp ?U ?_ ?_); (case B => k_asm); (case F => k_asm); (case N => k_asm); (case XB => k_asm); (case TB => k_asm); (case hp => first | exact rd_of0 (by k_asm) (by k_asm) (by k_mem) (by k_mem) (by assumption) | exact rd_of (by k_asm) (by k_asm) (by k_mem) (by k_mem) (by assumption)); (case hx => k_mem); (case hm => k_mem); (case hk => exact rfl); (case hd => first | exact roomD (by assumption) (by decide) | ((try dsimp only [ctx]); omega)); (case hu => first | exact roomC (by assumption) (by decide) | exact roomU (by assumption) (by decide) | ((try dsimp only [ctx]); omega)); (case U => intro _ _ _; k_upd); (case q1 => assumption); (case q2 => omega); (rotate_left 1; intro e7 h7 k7 t7 x7 F7 fl7 sm7; (try k_unfold); (try dsimp only); refine leave_fly (by k_asm) F7 fl7 sm7 ?_; refine holdR ?_; rotate_right 1); k_whole; intro h9 tk9 z9 t9 ta9 tb9 tc9 q9 F9 N9b; (try k_sweep); (try dsimp only)) | (unfold CHold; (k_dflt (refine' mkBE _ _ _ _ _ _ _ _ _ _ _ _ _ _ _ _ _ _ _ _ _ _ _ _ _ ?B ?F ?X ?N ?T ?hk ?hd ?hu ?_; (case B => k_asm); (case F => k_asm); (case X => k_asm); (case N => k_asm); (case T => k_asm); (case hk => exact rfl); (case hd => first | exact roomD (by assumption) (by decide) | ((try dsimp only [ctx] at *); omega)); (case hu => first | exact roomC (by assumption) (by decide) | exact roomU (by assumption) (by decide) | ((try dsimp only [ctx] at *); omega)); k_whole); intro x8 d8 t8 h8 k8 u8 v8 F8 N8 e8 n8; (try k_sweep); (try dsimp only)))); k_steps))
  unfold NHold
  rename Fr _ _ _ _ => F0
  rename News _ _ _ _ => N0
  rename IsRange _ _ _ _ _ _ _ _ => R0
  have F1 := Fr_eq F0 (map_none (c := "unit") (b := "found") (o := "octet") (t := "turn") _ _ _ rfl rfl)
  have N1 : News _ L' _ [(b, _), (x, _)] := fun p hp => N0 p (.tail _ hp)
  clear F0 N0
  refine kpr_invN (fun i m nx => ∃ (f u : Int) (t1 t2 ta tf tu : Tok) (uo ut : Option Value), nx = [(b, rdDict w ol (a + i) t1 t2 ta), (x, instObj 252 b)] ∧ numS ls 4 a 0 1 = numS ls (4 - i) (a + i) f u ∧
    m = (fun (y : Str) => if y = ("unit" : Str) then some (Value.int u tu) else if y = ("found" : Str) then some (Value.int f tf) else if y = ("octet" : Str) then uo else if y = ("turn" : Str) then ut else List.lookup y [(("self" : Str), Value.ref x)])) rfl R0 small4 (rangeSize_nat 0 4) F1 N1 ⟨0, 1, _, _, _, _, _, none, none, rfl, rfl, rfl⟩ ?turn ?done
  case turn =>
    rintro i k1 t m nx h tk own hk' hoff ⟨f, u, t1, t2, ta, tf, tu, uo, ut, rfl, hn, rfl⟩ F2 N2
    have hi := (List.getElem?_eq_some_iff.mp hk').1
    rw [rangeKs_length] at hi
    obtain ⟨n, hn4, hn5⟩ := sub_succ (n := 4) hi
    rw [hn4] at hn
    have F3 := Fr_eq F2 (map_turn (by decide) (by decide) (by decide) _ _ _ _ _ _)
    have hown : ∀ p ∈ own, p.1 ≠ b := fun p hp => hoff p hp b (.head _)
    clear F2 F1 N1 hk' hoff
    simp only [List.cons_append, List.nil_append] at N2
    (k_steps; repeat' ((first | (k_dflt (refine' TellX.useI (take _ _ _ _ _ _ ?q1 ?q2) ?B ?F ?N ?hx ?hm ?XB ?TB ?hk ?hd ?hu ?hp ?U ?_ ?_); (case B => k_asm); (case F => k_asm); (case N => k_asm); (case XB => k_asm); (case TB => k_asm); (case hp => first | exact rd_of0 (by k_asm) (by k_asm) (by k_mem) (by k_mem) (by assumption) | exact rd_of (by k_asm) (by k_asm) (by k_mem) (by k_mem) (by assumption)); (case hx => k_mem); (case hm => k_mem); (case hk => exact rfl); (case hd => first | exact roomD (by assumption) (by decide) | ((try dsimp only [ctx]); omega)); (case hu => first | exact roomC (by assumption) (by decide) | exact roomU (by assumption) (by decide) | ((try dsimp only [ctx]); omega)); (case U => intro _ _ _; k_upd); (case q1 => assumption); (case q2 => omega); (rotate_left 1; intro e7 h7 k7 t7 x7 F7 fl7 sm7; (try k_unfold); (try dsimp only); refine leave_fly (by k_asm) F7 fl7 sm7 ?_; refine holdR ?_; rotate_right 1); k_whole; intro h9 tk9 z9 t9 ta9 tb9 tc9 q9 F9 N9b; (try k_sweep); (try dsimp only)) | (unfold CHold; (k_dflt (refine' mkBE _ _ _ _ _ _ _ _ _ _ _ _ _ _ _ _ _ _ _ _ _ _ _ _ _ ?B ?F ?X ?N ?T ?hk ?hd ?hu ?_; (case B => k_asm); (case F => k_asm); (case X => k_asm); (case N => k_asm); (case T => k_asm); (case hk => exact rfl); (case hd => first | exact roomD (by assumption) (by decide) | ((try dsimp only [ctx] at *); omega)); (case hu => first | exact roomC (by assumption) (by decide) | exact roomU (by assumption) (by decide) | ((try dsimp only [ctx] at *); omega)); k_whole); intro x8 d8 t8 h8 k8 u8 v8 F8 N8 e8 n8; (try k_sweep); (try dsimp only)))); k_steps))
    · rename (_ < 128) => hlt
      ((try dsimp only); (try (first | k_unfold | dsimp only [qk])); (try dsimp only); unfold LeaveP; dsimp only; refine ret _ _ _ (staysX_of hgx (News.get (by k_asm) (by k_mem)) (Fr.keep (by k_asm))) ?_; try dsimp only)
      refine ⟨_, ⟨_, _, _, News.get (by k_asm) (by k_mem)⟩, _, _, ?_, by omega, rfl⟩
      rw [hn]
      simp only [numS, q9, if_pos hlt]
    · rename (¬ _ < 128) => hlt
      refine' InvEndN.intro (nx := [(b, _), (x, _)]) (Fr_eq (by k_asm) (map_body _ _ _ _ _ _ _)) (by k_asm) ⟨_, _, _, _, _, _, _, some _, some _, ?i0, ?i1, ?i2⟩ ?ha ?hn ?ho
      case hn =>
        intro p hp
        rcases List.mem_cons.mp hp with rfl | hp
        · k_mem
        · rw [List.mem_singleton.mp hp]; k_mem
      case ho =>
        intro p hp
        repeat (first | exact hp | refine List.Mem.tail _ ?_)
      case i0 => rfl
      case ha => rfl
      case i2 => rfl
      case i1 => rw [hn, hn5]; simp only [numS, q9, if_neg hlt]; rfl
    · unfold RHold
      intro hh fl sm
      refine rai _ _ _ _ _ ?_ fl sm
      refine ⟨_, t7, ?_, rfl, rfl⟩
      rw [hn]
      simp only [numS, x7]
  case done =>
    rintro m nx h tk ⟨f, u, t1, t2, ta, tf, tu, uo, ut, rfl, hn, rfl⟩ F2 N2
    clear F1 N1
    rw [rangeKs_length] at hn
    (k_steps; repeat' ((first | (k_dflt (refine' TellX.useI (take _ _ _ _ _ _ ?q1 ?q2) ?B ?F ?N ?hx ?hm ?XB ?TB ?hk ?hd ?hu ?hp ?U ?_ ?_); (case B => k_asm); (case F => k_asm); (case N => k_asm); (case XB => k_asm); (case TB => k_asm); (case hp => first | exact rd_of0 (by k_asm) (by k_asm) (by k_mem) (by k_mem) (by assumption) | exact rd_of (by k_asm) (by k_asm) (by k_mem) (by k_mem) (by assumption)); (case hx => k_mem); (case hm => k_mem); (case hk => exact rfl); (case hd => first | exact roomD (by assumption) (by decide) | ((try dsimp only [ctx]); omega)); (case hu => first | exact roomC (by assumption) (by decide) | exact roomU (by assumption) (by decide) | ((try dsimp only [ctx]); omega)); (case U => intro _ _ _; k_upd); (case q1 => assumption); (case q2 => omega); (rotate_left 1; intro e7 h7 k7 t7 x7 F7 fl7 sm7; (try k_unfold); (try dsimp only); refine leave_fly (by k_asm) F7 fl7 sm7 ?_; refine holdR ?_; rotate_right 1); k_whole; intro h9 tk9 z9 t9 ta9 tb9 tc9 q9 F9 N9b; (try k_sweep); (try dsimp only)) | (unfold CHold; (k_dflt (refine' mkBE _ _ _ _ _ _ _ _ _ _ _ _ _ _ _ _ _ _ _ _ _ _ _ _ _ ?B ?F ?X ?N ?T ?hk ?hd ?hu ?_; (case B => k_asm); (case F => k_asm); (case X => k_asm); (case N => k_asm); (case T => k_asm); (case hk => exact rfl); (case hd => first | exact roomD (by assumption) (by decide) | ((try dsimp only [ctx] at *); omega)); (case hu => first | exact roomC (by assumption) (by decide) | exact roomU (by assumption) (by decide) | ((try dsimp only [ctx] at *); omega)); k_whole); intro x8 d8 t8 h8 k8 u8 v8 F8 N8 e8 n8; (try k_sweep); (try dsimp only)))); k_steps))
    (refine ⟨_, _, _, rfl, X1.keeps (Fr.keep (by k_asm)), News.get (by k_asm) (.tail _ (.head _)), ?_⟩; (try k_unfold); (try dsimp only); refine leave_made B1 (by k_asm) (by k_asm) (by assumption) fun hh1 fl1 sm1 => ?_; refine rai _ _ _ _ _ ?_ fl1 sm1)
    exact ⟨_, _, hn, rfl, rfl⟩
end
end Mine
/-! T34 -/
namespace Mine
theorem start_T34 : True := by
  w_top off
  trivial
theorem TellX.mono {w : World} {k : Nat} {f x b : Addr} {vs : List Value} {P P' : Heap → Prop} {R R' : Heap → Heap → Value → Prop} {X X' : Str → Value → Prop} (C : TellX w k f x b vs P R X) (hp : ∀ g, P' g → P g) (hr : ∀ g h v, R g h v → R' g h v) (hx : ∀ c v, X c v → X' c v) : TellX w k f x b vs P' R' X' :=
  fun mean mg mb dp un gd l base g gs dr tk os Q E B XB TB n1 n2 n3 n4 hd hu p ret rai => C mean mg mb dp un gd l base g gs dr tk os Q E B XB TB n1 n2 n3 n4 hd hu (hp _ p) (fun v h' tk' s r => ret v h' tk' s (hr _ _ _ r)) (fun e h' tk' c v x => rai e h' tk' c v (hx _ _ x))
section
variable (w : World) (x b ol : Addr) (ls : List Int) (a : Nat) (ho : ls.length ≤ 40)
include ho
theorem numberOk {m : Int} {a1 : Nat} (ha : a ≤ 30) (hn : numS ls 4 a 0 1 = .ok (m, a1)) : TellX w 40 235 x b [.ref x] (fun g => Rd w g x b ol ls a) (fun _ h' v => RdAt w h' b ol a1 ∧ ∃ t, v = .int m t) (fun _ _ => False) :=
  (number w x b ol ls a ho ha).mono (fun _ p => p) (fun g h v r => by
    obtain ⟨a', r1, z, t, r2, r3, r4⟩ := r
    rw [hn] at r2; cases r2
    exact ⟨r1, t, r4⟩) fun c v r => by
    obtain ⟨p, t, r1, r2⟩ := r
    rw [hn] at r1; cases r1
theorem numberErr {p : Nat} (ha : a ≤ 30) (hn : numS ls 4 a 0 1 = .error p) : TellX w 40 235 x b [.ref x] (fun g => Rd w g x b ol ls a) (fun _ h' v => False) (fun c v => c = "SN" ∧ ∃ t, v = .int p t) :=
  (number w x b ol ls a ho ha).mono (fun _ p => p) (fun g h v r => by
    obtain ⟨a', r1, z, t, r2, r3, r4⟩ := r
    rw [hn] at r2; cases r2) fun c v r => by
    obtain ⟨p, t, r1, r2, r3⟩ := r
    rw [hn] at r1; cases r1
    exact ⟨r2, t, r3⟩
omit ho in
theorem num_le {m : Int} {a1 n : Nat} {f u : Int} (hn : numS ls n a f u = .ok (m, a1)) : a1 ≤ a + n := by
  induction n generalizing a f u with
  | zero => cases hn
  | succ n ih =>
    unfold numS at hn
    split at hn
    · cases hn
    · split at hn
      · cases hn; omega
      · have := ih _ hn; omega
end
def takesS (ls : List Int) : Nat → Nat → Str → Except Nat (Str × Nat)
  | 0, a, f => .ok (f, a)
  | n+1, a, f => match ls[a]? with
    | none => .error a
    | some z => takesS ls n (a + 1) (f ++ ⟨#[z.toNat]⟩)
def textS (ls : List Int) (a : Nat) : Except Nat (Str × Nat) := match numS ls 4 a 0 1 with
  | .error p => .error p
  | .ok (m, a1) => takesS ls m.toNat a1 ""
theorem chr_ok {ls : List Int} {i : Nat} {z : Int} (hb : ∀ z ∈ ls, 0 ≤ z ∧ z < 256) (e : ls[i]? = some z) : (decide (z < 0) || decide (z > 0x10FFFF)) = false := by
  have := hb z (List.mem_of_getElem? e)
  simp; omega
section



local macro_rules | `(tactic| walk_at "pyIter ref") => `(tactic| refine holdN ?_)


local macro_rules | `(tactic| walk_at "zz") => `(tactic| skip)
theorem text (w : World) (x b ol : Addr) (ls : List Int) (a : Nat) (ho : ls.length ≤ 40) (ha : a ≤ 30) (hb : ∀ z ∈ ls, 0 ≤ z ∧ z < 256) (hm : ∀ m a1, numS ls 4 a 0 1 = .ok (m, a1) → m = 1 ∨ m = 3) :
    TellX w 50 242 x b [.ref x] (fun g => Rd w g x b ol ls a) (fun _ h' v => ∃ a' u t, RdAt w h' b ol a' ∧ textS ls a = .ok (u, a') ∧ v = .str u t) (fun c v => ∃ p t, textS ls a = .error p ∧ c = "SN" ∧ v = .int (p : Nat) t) := by
  unfold TellX
  intro mean mg mb dp un gd l base g gs dr tk os Q E B XB TB hbx hbb hfx hfb hd' hu hP ret rai
  revert XB; k_fill; intro XB
  have cLi := cLine_is
  have reci : recursionLimit = 1000 := rfl
  refine wpAny_call ?_
  k_dflt (refine' enterP (l0 := [("self", _)]) ?k1 ?k2 ?k3 ?k6 ?k7 ?k8 ?k9 ?kl ?kB ?_ ?c2 ?c3 ?c4 ?c5; (case k1 => exact B); (case k2 => exact XB); (case k3 => exact TB); (case k6 => k_is); (case k7 => k_is); (case k8 => exact roomZ hd'); (case k9 => exact BindsTo.of_eq rfl); (case kl => exact rfl); (case c5 => decide); (case kB => exact locs rfl); (case c2 => exact rfl); (case c3 => exact rfl); (case c4 => exact rfl); k_whole)
  intro L' h' tk0 F' N' X T
  dsimp only
  k_fold
  obtain ⟨hgx, ⟨t1, t2, ta, hgb⟩, hl, nxb, nox, nob⟩ := hP
  have F1 := hide2_fr (x := x) (b := b) F'; have N1 := hide2_news F' N' hgx hgb nxb; have B1 := hide2_below B hbx hbb hfx hfb; have X1 := XB.keeps B1.stays; have T1 := TB.keeps B1.stays; clear F' N' B X T
  have hl1 := hide2_sl hl nox nob
  clear hl
  rcases hn : numS ls 4 a 0 1 with p | ⟨m, a1⟩
  · (k_with_none; (k_with "ne" => (first | exact ne_gt (by with_reducible assumption) | exact ne_lt (by with_reducible assumption) | with_reducible assumption | exact Ne.symm (by with_reducible assumption) | exact ne_gt (And.left (by with_reducible assumption)) | exact ne_gt (And.left (And.right (by with_reducible assumption))) | exact ne_gt (And.right (by with_reducible assumption)) | exact ne_gt (And.right (And.right (by with_reducible assumption))) | exact ne_lt (And.left (by with_reducible assumption)) | exact ne_lt (And.left (And.right (by with_reducible assumption))) | exact ne_lt (And.right (by with_reducible assumption)) | exact ne_lt (And.right (And.right (by with_reducible assumption))))); (k_with "call ref" => refine hold228 ?_); (k_with "call ref" => refine hold235 ?_); (k_with "exec For Name Call cons nil" => ((rename Fr _ _ _ _ => lF9); (with_unfolding_all refine' For_invVF lF9 ?k1Kw ?k2Kw ?_); (case k1Kw => exact rfl); (case k2Kw => exact rfl); k_whole)); (k_with "call builtin:chr" => ((with_reducible show wpAny _ _ (call (Value.builtin "chr") [Value.int _ _]) _ _ _); refine P.chr_of_int (chr_ok (by assumption) (by assumption)) ?_)); k_steps; repeat' ((first | (k_dflt (refine' TellX.useO (numberOk _ _ _ _ _ _ ?q1 ?q2 ?q3) ?B ?F ?N ?hx ?hm ?XB ?TB ?hk ?hd ?hu ?hp ?U ?_); (case B => k_asm); (case F => k_asm); (case N => k_asm); (case XB => k_asm); (case TB => k_asm); (case hp => first | exact rd_of0 (by k_asm) (by k_asm) (by k_mem) (by k_mem) (by assumption) | exact rd_of (by k_asm) (by k_asm) (by k_mem) (by k_mem) (by assumption)); (case hx => k_mem); (case hm => k_mem); (case hk => exact rfl); (case hd => first | exact roomD (by assumption) (by decide) | ((try dsimp only [ctx]); omega)); (case hu => first | exact roomC (by assumption) (by decide) | exact roomU (by assumption) (by decide) | ((try dsimp only [ctx]); omega)); (case U => intro _ _ _; k_upd); (case q1 => assumption); (case q2 => omega); (case q3 => assumption); k_whole; intro h9 tk9 t9 ta9 tb9 tc9 F9 N9b; (try k_sweep); (try dsimp only)) | (k_dflt (refine' TellX.useErr (numberErr _ _ _ _ _ _ ?q1 ?q2 ?q3) ?B ?F ?N ?hx ?hm ?XB ?TB ?hk ?hd ?hu ?hp ?_); (case B => k_asm); (case F => k_asm); (case N => k_asm); (case XB => k_asm); (case TB => k_asm); (case hp => first | exact rd_of0 (by k_asm) (by k_asm) (by k_mem) (by k_mem) (by assumption) | exact rd_of (by k_asm) (by k_asm) (by k_mem) (by k_mem) (by assumption)); (case hx => k_mem); (case hm => k_mem); (case hk => exact rfl); (case hd => first | exact roomD (by assumption) (by decide) | ((try dsimp only [ctx]); omega)); (case hu => first | exact roomC (by assumption) (by decide) | exact roomU (by assumption) (by decide) | ((try dsimp only [ctx]); omega)); (case q1 => assumption); (case q2 => omega); (case q3 => assumption); intro e7 h7 k7 t7 F7 fl7 sm7; (try k_unfold); (try dsimp only); refine leave_fly (by k_asm) F7 fl7 sm7 ?_; refine holdR ?_) | (k_dflt (refine' TellX.useI (take _ _ _ _ _ _ ?q1 ?q2) ?B ?F ?N ?hx ?hm ?XB ?TB ?hk ?hd ?hu ?hp ?U ?_ ?_); (case B => k_asm); (case F => k_asm); (case N => k_asm); (case XB => k_asm); (case TB => k_asm); (case hp => first | exact rd_of0 (by k_asm) (by k_asm) (by k_mem) (by k_mem) (by assumption) | exact rd_of (by k_asm) (by k_asm) (by k_mem) (by k_mem) (by assumption)); (case hx => k_mem); (case hm => k_mem); (case hk => exact rfl); (case hd => first | exact roomD (by assumption) (by decide) | ((try dsimp only [ctx]); omega)); (case hu => first | exact roomC (by assumption) (by decide) | exact roomU (by assumption) (by decide) | ((try dsimp only [ctx]); omega)); (case U => intro _ _ _; k_upd); (case q1 => assumption); (case q2 => omega); (rotate_left 1; intro e7 h7 k7 t7 x7 F7 fl7 sm7; (try k_unfold); (try dsimp only); refine leave_fly (by k_asm) F7 fl7 sm7 ?_; refine holdR ?_; rotate_right 1); k_whole; intro h9 tk9 z9 t9 ta9 tb9 tc9 q9 F9 N9b; (try k_sweep); (try dsimp only))); k_steps))
    unfold RHold
    intro hh fl sm
    refine rai _ _ _ _ _ ?_ fl sm
    exact ⟨p, t7, by simp only [textS, hn], rfl, rfl⟩
  · have hle := num_le ls a hn
    have hm3 : m.toNat ≤ 3 ∧ -(2 ^ 62) ≤ m ∧ m < 2 ^ 62 := by rcases hm m a1 hn with rfl | rfl <;> decide
    obtain ⟨hm3, hlo, hhi⟩ := hm3
    (k_steps; repeat' ((first | (k_dflt (refine' TellX.useO (numberOk _ _ _ _ _ _ ?q1 ?q2 ?q3) ?B ?F ?N ?hx ?hm ?XB ?TB ?hk ?hd ?hu ?hp ?U ?_); (case B => k_asm); (case F => k_asm); (case N => k_asm); (case XB => k_asm); (case TB => k_asm); (case hp => first | exact rd_of0 (by k_asm) (by k_asm) (by k_mem) (by k_mem) (by assumption) | exact rd_of (by k_asm) (by k_asm) (by k_mem) (by k_mem) (by assumption)); (case hx => k_mem); (case hm => k_mem); (case hk => exact rfl); (case hd => first | exact roomD (by assumption) (by decide) | ((try dsimp only [ctx]); omega)); (case hu => first | exact roomC (by assumption) (by decide) | exact roomU (by assumption) (by decide) | ((try dsimp only [ctx]); omega)); (case U => intro _ _ _; k_upd); (case q1 => assumption); (case q2 => omega); (case q3 => assumption); k_whole; intro h9 tk9 t9 ta9 tb9 tc9 F9 N9b; (try k_sweep); (try dsimp only)) | (k_dflt (refine' TellX.useErr (numberErr _ _ _ _ _ _ ?q1 ?q2 ?q3) ?B ?F ?N ?hx ?hm ?XB ?TB ?hk ?hd ?hu ?hp ?_); (case B => k_asm); (case F => k_asm); (case N => k_asm); (case XB => k_asm); (case TB => k_asm); (case hp => first | exact rd_of0 (by k_asm) (by k_asm) (by k_mem) (by k_mem) (by assumption) | exact rd_of (by k_asm) (by k_asm) (by k_mem) (by k_mem) (by assumption)); (case hx => k_mem); (case hm => k_mem); (case hk => exact rfl); (case hd => first | exact roomD (by assumption) (by decide) | ((try dsimp only [ctx]); omega)); (case hu => first | exact roomC (by assumption) (by decide) | exact roomU (by assumption) (by decide) | ((try dsimp only [ctx]); omega)); (case q1 => assumption); (case q2 => omega); (case q3 => assumption); intro e7 h7 k7 t7 F7 fl7 sm7; (try k_unfold); (try dsimp only); refine leave_fly (by k_asm) F7 fl7 sm7 ?_; refine holdR ?_) | (k_dflt (refine' TellX.useI (take _ _ _ _ _ _ ?q1 ?q2) ?B ?F ?N ?hx ?hm ?XB ?TB ?hk ?hd ?hu ?hp ?U ?_ ?_); (case B => k_asm); (case F => k_asm); (case N => k_asm); (case XB => k_asm); (case TB => k_asm); (case hp => first | exact rd_of0 (by k_asm) (by k_asm) (by k_mem) (by k_mem) (by assumption) | exact rd_of (by k_asm) (by k_asm) (by k_mem) (by k_mem) (by assumption)); (case hx => k_mem); (case hm => k_mem); (case hk => exact rfl); (case hd => first | exact roomD (by assumption) (by decide) | ((try dsimp only [ctx]); omega)); (case hu => first | exact roomC (by assumption) (by decide) | exact roomU (by assumption) (by decide) | ((try dsimp only [ctx]); omega)); (case U => intro _ _ _; k_upd); (case q1 => assumption); (case q2 => omega); (rotate_left 1; intro e7 h7 k7 t7 x7 F7 fl7 sm7; (try k_unfold); (try dsimp only); refine leave_fly (by k_asm) F7 fl7 sm7 ?_; refine holdR ?_; rotate_right 1); k_whole; intro h9 tk9 z9 t9 ta9 tb9 tc9 q9 F9 N9b; (try k_sweep); (try dsimp only))); k_steps))
    unfold NHold
    rename Fr _ _ _ _ => F0
    rename News _ _ _ _ => N0
    rename IsRange _ _ _ _ _ _ _ _ => R0
    have F1 := Fr_eq (Fr_eq F0 (loc_set2 _ _ _ _ _)) (told_none (t := "turn") _ rfl)
    have N1 : News _ L' _ [(b, _), (x, _)] := fun p hp => N0 p (.tail _ hp)
    clear F0 N0
    refine kpr_invN (fun i mm nx => ∃ (u : Str) (t1 t2 ta tf : Tok) (ut : Option Value), nx = [(b, rdDict w ol (a1 + i) t1 t2 ta), (x, instObj 252 b)] ∧ takesS ls m.toNat a1 "" = takesS ls (m.toNat - i) (a1 + i) u ∧ u.length ≤ i ∧
      mm = (fun (y : Str) => if y = ("turn" : Str) then ut else List.lookup y [(("self" : Str), Value.ref x), (("found" : Str), Value.str u tf), (("many" : Str), Value.int m _)])) rfl R0 (PySem.small_one (by decide) (by decide) hlo hhi) (rangeSize_nat _ _) F1 N1 ⟨"", _, _, _, _, none, rfl, rfl, Nat.le_refl _, rfl⟩ ?turn ?done
    case turn =>
      rintro i k1 t mm nx h tk own hk' hoff ⟨u, t1, t2, ta, tf, ut, rfl, hj, hul, rfl⟩ F2 N2
      have hi := (List.getElem?_eq_some_iff.mp hk').1
      rw [rangeKs_length] at hi
      rw [Int.sub_zero] at hi
      obtain ⟨n, hn4, hn5⟩ := sub_succ hi
      rw [hn4] at hj
      have F3 := Fr_eq F2 (told_told _ _ _)
      have hown : ∀ p ∈ own, p.1 ≠ b := fun p hp => hoff p hp b (.head _)
      have hi3 := Nat.le_of_lt (Nat.lt_of_lt_of_le hi hm3)
      have hu3 := Nat.le_trans hul hi3
      clear F2 F1 N1 hk' hoff
      simp only [List.cons_append, List.nil_append] at N2
      (k_steps; repeat' ((first | (k_dflt (refine' TellX.useO (numberOk _ _ _ _ _ _ ?q1 ?q2 ?q3) ?B ?F ?N ?hx ?hm ?XB ?TB ?hk ?hd ?hu ?hp ?U ?_); (case B => k_asm); (case F => k_asm); (case N => k_asm); (case XB => k_asm); (case TB => k_asm); (case hp => first | exact rd_of0 (by k_asm) (by k_asm) (by k_mem) (by k_mem) (by assumption) | exact rd_of (by k_asm) (by k_asm) (by k_mem) (by k_mem) (by assumption)); (case hx => k_mem); (case hm => k_mem); (case hk => exact rfl); (case hd => first | exact roomD (by assumption) (by decide) | ((try dsimp only [ctx]); omega)); (case hu => first | exact roomC (by assumption) (by decide) | exact roomU (by assumption) (by decide) | ((try dsimp only [ctx]); omega)); (case U => intro _ _ _; k_upd); (case q1 => assumption); (case q2 => omega); (case q3 => assumption); k_whole; intro h9 tk9 t9 ta9 tb9 tc9 F9 N9b; (try k_sweep); (try dsimp only)) | (k_dflt (refine' TellX.useErr (numberErr _ _ _ _ _ _ ?q1 ?q2 ?q3) ?B ?F ?N ?hx ?hm ?XB ?TB ?hk ?hd ?hu ?hp ?_); (case B => k_asm); (case F => k_asm); (case N => k_asm); (case XB => k_asm); (case TB => k_asm); (case hp => first | exact rd_of0 (by k_asm) (by k_asm) (by k_mem) (by k_mem) (by assumption) | exact rd_of (by k_asm) (by k_asm) (by k_mem) (by k_mem) (by assumption)); (case hx => k_mem); (case hm => k_mem); (case hk => exact rfl); (case hd => first | exact roomD (by assumption) (by decide) | ((try dsimp only [ctx]); omega)); (case hu => first | exact roomC (by assumption) (by decide) | exact roomU (by assumption) (by decide) | ((try dsimp only [ctx]); omega)); (case q1 => assumption); (case q2 => omega); (case q3 => assumption); intro e7 h7 k7 t7 F7 fl7 sm7; (try k_unfold); (try dsimp only); refine leave_fly (by k_asm) F7 fl7 sm7 ?_; refine holdR ?_) | (k_dflt (refine' TellX.useI (take _ _ _ _ _ _ ?q1 ?q2) ?B ?F ?N ?hx ?hm ?XB ?TB ?hk ?hd ?hu ?hp ?U ?_ ?_); (case B => k_asm); (case F => k_asm); (case N => k_asm); (case XB => k_asm); (case TB => k_asm); (case hp => first | exact rd_of0 (by k_asm) (by k_asm) (by k_mem) (by k_mem) (by assumption) | exact rd_of (by k_asm) (by k_asm) (by k_mem) (by k_mem) (by assumption)); (case hx => k_mem); (case hm => k_mem); (case hk => exact rfl); (case hd => first | exact roomD (by assumption) (by decide) | ((try dsimp only [ctx]); omega)); (case hu => first | exact roomC (by assumption) (by decide) | exact roomU (by assumption) (by decide) | ((try dsimp only [ctx]); omega)); (case U => intro _ _ _; k_upd); (case q1 => assumption); (case q2 => omega); (rotate_left 1; intro e7 h7 k7 t7 x7 F7 fl7 sm7; (try k_unfold); (try dsimp only); refine leave_fly (by k_asm) F7 fl7 sm7 ?_; refine holdR ?_; rotate_right 1); k_whole; intro h9 tk9 z9 t9 ta9 tb9 tc9 q9 F9 N9b; (try k_sweep); (try dsimp only))); k_steps))
      · refine' InvEndN.intro (nx := [(b, _), (x, _)]) (Fr_eq (by k_asm) (told_at (a := "found") (t := "turn") (by decide) _ _ _)) (by k_asm) ⟨_, _, _, _, _, some _, ?i0, ?i1, ?i3, ?i2⟩ ?ha ?hn ?ho
        case hn =>
          intro p hp
          rcases List.mem_cons.mp hp with rfl | hp
          · k_mem
          · rw [List.mem_singleton.mp hp]; k_mem
        case ho =>
          intro p hp
          repeat (first | exact hp | refine List.Mem.tail _ ?_)
        case i0 => rfl
        case ha => rfl
        case i2 => rfl
        case i3 => exact Nat.le_trans (Nat.le_of_eq (len_app _ _)) (Nat.succ_le_succ hul)
        case i1 => rw [hj, hn5]; simp only [takesS, q9]; rfl
      · unfold RHold
        intro hh fl sm
        refine rai _ _ _ _ _ ?_ fl sm
        refine ⟨_, t7, ?_, rfl, rfl⟩
        unfold textS
        rw [hn]
        show takesS ls m.toNat a1 "" = _
        rw [hj]
        simp only [takesS, x7]
    case done =>
      rintro mm nx h tk ⟨u, t1, t2, ta, tf, ut, rfl, hj, hul, rfl⟩ F2 N2
      clear F1 N1
      rw [rangeKs_length] at hj N2
      (k_steps; repeat' ((first | (k_dflt (refine' TellX.useO (numberOk _ _ _ _ _ _ ?q1 ?q2 ?q3) ?B ?F ?N ?hx ?hm ?XB ?TB ?hk ?hd ?hu ?hp ?U ?_); (case B => k_asm); (case F => k_asm); (case N => k_asm); (case XB => k_asm); (case TB => k_asm); (case hp => first | exact rd_of0 (by k_asm) (by k_asm) (by k_mem) (by k_mem) (by assumption) | exact rd_of (by k_asm) (by k_asm) (by k_mem) (by k_mem) (by assumption)); (case hx => k_mem); (case hm => k_mem); (case hk => exact rfl); (case hd => first | exact roomD (by assumption) (by decide) | ((try dsimp only [ctx]); omega)); (case hu => first | exact roomC (by assumption) (by decide) | exact roomU (by assumption) (by decide) | ((try dsimp only [ctx]); omega)); (case U => intro _ _ _; k_upd); (case q1 => assumption); (case q2 => omega); (case q3 => assumption); k_whole; intro h9 tk9 t9 ta9 tb9 tc9 F9 N9b; (try k_sweep); (try dsimp only)) | (k_dflt (refine' TellX.useErr (numberErr _ _ _ _ _ _ ?q1 ?q2 ?q3) ?B ?F ?N ?hx ?hm ?XB ?TB ?hk ?hd ?hu ?hp ?_); (case B => k_asm); (case F => k_asm); (case N => k_asm); (case XB => k_asm); (case TB => k_asm); (case hp => first | exact rd_of0 (by k_asm) (by k_asm) (by k_mem) (by k_mem) (by assumption) | exact rd_of (by k_asm) (by k_asm) (by k_mem) (by k_mem) (by assumption)); (case hx => k_mem); (case hm => k_mem); (case hk => exact rfl); (case hd => first | exact roomD (by assumption) (by decide) | ((try dsimp only [ctx]); omega)); (case hu => first | exact roomC (by assumption) (by decide) | exact roomU (by assumption) (by decide) | ((try dsimp only [ctx]); omega)); (case q1 => assumption); (case q2 => omega); (case q3 => assumption); intro e7 h7 k7 t7 F7 fl7 sm7; (try k_unfold); (try dsimp only); refine leave_fly (by k_asm) F7 fl7 sm7 ?_; refine holdR ?_) | (k_dflt (refine' TellX.useI (take _ _ _ _ _ _ ?q1 ?q2) ?B ?F ?N ?hx ?hm ?XB ?TB ?hk ?hd ?hu ?hp ?U ?_ ?_); (case B => k_asm); (case F => k_asm); (case N => k_asm); (case XB => k_asm); (case TB => k_asm); (case hp => first | exact rd_of0 (by k_asm) (by k_asm) (by k_mem) (by k_mem) (by assumption) | exact rd_of (by k_asm) (by k_asm) (by k_mem) (by k_mem) (by assumption)); (case hx => k_mem); (case hm => k_mem); (case hk => exact rfl); (case hd => first | exact roomD (by assumption) (by decide) | ((try dsimp only [ctx]); omega)); (case hu => first | exact roomC (by assumption) (by decide) | exact roomU (by assumption) (by decide) | ((try dsimp only [ctx]); omega)); (case U => intro _ _ _; k_upd); (case q1 => assumption); (case q2 => omega); (rotate_left 1; intro e7 h7 k7 t7 x7 F7 fl7 sm7; (try k_unfold); (try dsimp only); refine leave_fly (by k_asm) F7 fl7 sm7 ?_; refine holdR ?_; rotate_right 1); k_whole; intro h9 tk9 z9 t9 ta9 tb9 tc9 q9 F9 N9b; (try k_sweep); (try dsimp only))); k_steps))
      ((try dsimp only); (try (first | k_unfold | dsimp only [qk])); (try dsimp only); unfold LeaveP; dsimp only; refine ret _ _ _ (staysX_of hgx (News.get (by k_asm) (by k_mem)) (Fr.keep (by k_asm))) ?_; try dsimp only)
      refine ⟨_, _, _, ⟨_, _, _, News.get (by k_asm) (by k_mem)⟩, ?_, rfl⟩
      unfold textS
      rw [hn]
      show takesS ls m.toNat a1 "" = _
      have e0 : m.toNat - (m - 0).toNat = 0 := by rw [Int.sub_zero, Nat.sub_self]
      rw [hj, e0]
      rfl
end
end Mine
/-! T35 -/
namespace Mine
theorem start_T35 : True := by
  w_top off
  trivial
section
variable (w : World) (x b ol : Addr) (ls : List Int) (a : Nat) (ho : ls.length ≤ 40)
include ho
theorem takeOk {z : Int} (ha : a ≤ 40) (hn : ls[a]? = some z) : TellX w 30 228 x b [.ref x] (fun g => Rd w g x b ol ls a) (fun _ h' v => RdAt w h' b ol (a + 1) ∧ ∃ t, v = .int z t) (fun _ _ => False) :=
  (take w x b ol ls a ho ha).mono (fun _ p => p) (fun g h v r => by
    obtain ⟨r1, z, t, r2, r4⟩ := r
    rw [hn] at r2; cases r2
    exact ⟨r1, t, r4⟩) fun c v r => by
    obtain ⟨r1, _⟩ := r
    rw [hn] at r1; cases r1
theorem takeErr (ha : a ≤ 40) (hn : ls[a]? = none) : TellX w 30 228 x b [.ref x] (fun g => Rd w g x b ol ls a) (fun _ h' v => False) (fun c v => c = "SN" ∧ ∃ t, v = .int a t) :=
  (take w x b ol ls a ho ha).mono (fun _ p => p) (fun g h v r => by
    obtain ⟨r1, z, t, r2, r4⟩ := r
    rw [hn] at r2; cases r2) fun c v r => r.2
end
def Words (g : Heap) (x b wl : Addr) : Prop := ∃ vs, g.IsList wl vs ∧ vs.size ≤ 120 ∧ wl ≠ x ∧ wl ≠ b
abbrev tup2 (k : Str) (t : Tok) (u : Str) (t' : Tok) : Obj := { cls := .type "tuple", data := .seq #[.str k t, .str u t'] }
theorem fresh2 {G h : Heap} {L x b t : Addr} {all : List (Addr × Obj)} {o ox ob : Obj} (N : News (hideAll G [x, b]) L h all) (ht : (t, o) ∈ all) (hx : (x, ox) ∈ all) (hb : (b, ob) ∈ all) (nx : o ≠ ox) (nb : o ≠ ob) : G.get? t = none := by
  obtain ⟨t1, t2, t3⟩ := N _ ht
  obtain ⟨x1, _⟩ := N _ hx
  obtain ⟨b1, _⟩ := N _ hb
  dsimp only at *
  cases q : G.get? t with
  | none => rfl
  | some o' =>
    rw [hideAll_get _ q (by
      simp
      constructor
      · rintro rfl; rw [t1] at x1; cases x1; exact nx rfl
      · rintro rfl; rw [t1] at b1; cases b1; exact nb rfl)] at t3
    cases t3
section



theorem tokWord (w : World) (x b ol wl : Addr) (tw : Tok) (ls : List Int) (a : Nat) (ho : ls.length ≤ 40) (ha : a ≤ 30) (hm : ∀ m a1, numS ls 4 a 0 1 = .ok (m, a1) → 120 ≤ m) :
    TellX w 60 249 x b [.ref x, .str "word" tw, .ref wl] (fun g => Rd w g x b ol ls a ∧ Words g x b wl) (fun _ h' v => False) (fun c v => ∃ p t, (numS ls 4 a 0 1 = .error p ∨ ∃ m, numS ls 4 a 0 1 = .ok (m, p)) ∧ c = "SN" ∧ v = .int (p : Nat) t) := by
  unfold TellX
  intro mean mg mb dp un gd l base g gs dr tk os Q E B XB TB hbx hbb hfx hfb hd' hu hP ret rai
  revert XB; k_fill; intro XB
  have cLi := cLine_is
  have reci : recursionLimit = 1000 := rfl
  refine wpAny_call ?_
  k_dflt (refine' enterP (l0 := [("words", _), ("kind", _), ("self", _)]) ?k1 ?k2 ?k3 ?k6 ?k7 ?k8 ?k9 ?kl ?kB ?_ ?c2 ?c3 ?c4 ?c5; (case k1 => exact B); (case k2 => exact XB); (case k3 => exact TB); (case k6 => k_is); (case k7 => k_is); (case k8 => exact roomZ hd'); (case k9 => exact BindsTo.of_eq rfl); (case kl => exact rfl); (case c5 => decide); (case kB => exact locs rfl); (case c2 => exact rfl); (case c3 => exact rfl); (case c4 => exact rfl); k_whole)
  intro L' h' tk0 F' N' X T
  dsimp only
  k_fold
  obtain ⟨⟨hgx, ⟨t1, t2, ta, hgb⟩, hl, nxb, nox, nob⟩, ⟨ws, hwl, hws, nwx, nwb⟩⟩ := hP
  have F1 := hide2_fr (x := x) (b := b) F'; have N1 := hide2_news F' N' hgx hgb nxb; have B1 := hide2_below B hbx hbb hfx hfb; have X1 := XB.keeps B1.stays; have T1 := TB.keeps B1.stays; clear F' N' B X T
  have hl1 := hide2_sl hl nox nob
  have hwl1 := hide2_list hwl nwx nwb
  clear hl hwl
  rcases hn : numS ls 4 a 0 1 with p | ⟨m, a1⟩
  · (k_with_none; (k_with "ne" => (first | exact ne_gt (by with_reducible assumption) | exact ne_lt (by with_reducible assumption) | with_reducible assumption | exact Ne.symm (by with_reducible assumption) | exact ne_gt (And.left (by with_reducible assumption)) | exact ne_gt (And.left (And.right (by with_reducible assumption))) | exact ne_gt (And.right (by with_reducible assumption)) | exact ne_gt (And.right (And.right (by with_reducible assumption))) | exact ne_lt (And.left (by with_reducible assumption)) | exact ne_lt (And.left (And.right (by with_reducible assumption))) | exact ne_lt (And.right (by with_reducible assumption)) | exact ne_lt (And.right (And.right (by with_reducible assumption))))); (k_with "call ref" => refine hold34 ?_); (k_with "exec Raise some none" => refine Raise_be rfl ?_); (k_with "call ref" => refine hold235 ?_); k_steps; repeat' ((first | (k_dflt (refine' TellX.useO (numberOk _ _ _ _ _ _ ?q1 ?q2 ?q3) ?B ?F ?N ?hx ?hm ?XB ?TB ?hk ?hd ?hu ?hp ?U ?_); (case B => k_asm); (case F => k_asm); (case N => k_asm); (case XB => k_asm); (case TB => k_asm); (case hp => first | exact rd_of0 (by k_asm) (by k_asm) (by k_mem) (by k_mem) (by assumption) | exact rd_of (by k_asm) (by k_asm) (by k_mem) (by k_mem) (by assumption)); (case hx => k_mem); (case hm => k_mem); (case hk => exact rfl); (case hd => first | exact roomD (by assumption) (by decide) | ((try dsimp only [ctx]); omega)); (case hu => first | exact roomC (by assumption) (by decide) | exact roomU (by assumption) (by decide) | ((try dsimp only [ctx]); omega)); (case U => intro _ _ _; k_upd); (case q1 => assumption); (case q2 => omega); (case q3 => assumption); k_whole; intro h9 tk9 t9 ta9 tb9 tc9 F9 N9b; (try k_sweep); (try dsimp only)) | (k_dflt (refine' TellX.useErr (numberErr _ _ _ _ _ _ ?q1 ?q2 ?q3) ?B ?F ?N ?hx ?hm ?XB ?TB ?hk ?hd ?hu ?hp ?_); (case B => k_asm); (case F => k_asm); (case N => k_asm); (case XB => k_asm); (case TB => k_asm); (case hp => first | exact rd_of0 (by k_asm) (by k_asm) (by k_mem) (by k_mem) (by assumption) | exact rd_of (by k_asm) (by k_asm) (by k_mem) (by k_mem) (by assumption)); (case hx => k_mem); (case hm => k_mem); (case hk => exact rfl); (case hd => first | exact roomD (by assumption) (by decide) | ((try dsimp only [ctx]); omega)); (case hu => first | exact roomC (by assumption) (by decide) | exact roomU (by assumption) (by decide) | ((try dsimp only [ctx]); omega)); (case q1 => assumption); (case q2 => omega); (case q3 => assumption); intro e7 h7 k7 t7 F7 fl7 sm7; (try k_unfold); (try dsimp only); refine leave_fly (by k_asm) F7 fl7 sm7 ?_; refine holdR ?_) | (unfold CHold; (k_dflt (refine' mkBE _ _ _ _ _ _ _ _ _ _ _ _ _ _ _ _ _ _ _ _ _ _ _ _ _ ?B ?F ?X ?N ?T ?hk ?hd ?hu ?_; (case B => k_asm); (case F => k_asm); (case X => k_asm); (case N => k_asm); (case T => k_asm); (case hk => exact rfl); (case hd => first | exact roomD (by assumption) (by decide) | ((try dsimp only [ctx] at *); omega)); (case hu => first | exact roomC (by assumption) (by decide) | exact roomU (by assumption) (by decide) | ((try dsimp only [ctx] at *); omega)); k_whole); intro x8 d8 t8 h8 k8 u8 v8 F8 N8 e8 n8; (try k_sweep); (try dsimp only)))); k_steps))
    unfold RHold
    intro hh fl sm
    refine rai _ _ _ _ _ ?_ fl sm
    exact ⟨p, t7, .inl hn, rfl, rfl⟩
  · have hle := num_le _ _ hn
    have hm' := hm m a1 hn
    (k_steps; repeat' ((first | (k_dflt (refine' TellX.useO (numberOk _ _ _ _ _ _ ?q1 ?q2 ?q3) ?B ?F ?N ?hx ?hm ?XB ?TB ?hk ?hd ?hu ?hp ?U ?_); (case B => k_asm); (case F => k_asm); (case N => k_asm); (case XB => k_asm); (case TB => k_asm); (case hp => first | exact rd_of0 (by k_asm) (by k_asm) (by k_mem) (by k_mem) (by assumption) | exact rd_of (by k_asm) (by k_asm) (by k_mem) (by k_mem) (by assumption)); (case hx => k_mem); (case hm => k_mem); (case hk => exact rfl); (case hd => first | exact roomD (by assumption) (by decide) | ((try dsimp only [ctx]); omega)); (case hu => first | exact roomC (by assumption) (by decide) | exact roomU (by assumption) (by decide) | ((try dsimp only [ctx]); omega)); (case U => intro _ _ _; k_upd); (case q1 => assumption); (case q2 => omega); (case q3 => assumption); k_whole; intro h9 tk9 t9 ta9 tb9 tc9 F9 N9b; (try k_sweep); (try dsimp only)) | (k_dflt (refine' TellX.useErr (numberErr _ _ _ _ _ _ ?q1 ?q2 ?q3) ?B ?F ?N ?hx ?hm ?XB ?TB ?hk ?hd ?hu ?hp ?_); (case B => k_asm); (case F => k_asm); (case N => k_asm); (case XB => k_asm); (case TB => k_asm); (case hp => first | exact rd_of0 (by k_asm) (by k_asm) (by k_mem) (by k_mem) (by assumption) | exact rd_of (by k_asm) (by k_asm) (by k_mem) (by k_mem) (by assumption)); (case hx => k_mem); (case hm => k_mem); (case hk => exact rfl); (case hd => first | exact roomD (by assumption) (by decide) | ((try dsimp only [ctx]); omega)); (case hu => first | exact roomC (by assumption) (by decide) | exact roomU (by assumption) (by decide) | ((try dsimp only [ctx]); omega)); (case q1 => assumption); (case q2 => omega); (case q3 => assumption); intro e7 h7 k7 t7 F7 fl7 sm7; (try k_unfold); (try dsimp only); refine leave_fly (by k_asm) F7 fl7 sm7 ?_; refine holdR ?_) | (unfold CHold; (k_dflt (refine' mkBE _ _ _ _ _ _ _ _ _ _ _ _ _ _ _ _ _ _ _ _ _ _ _ _ _ ?B ?F ?X ?N ?T ?hk ?hd ?hu ?_; (case B => k_asm); (case F => k_asm); (case X => k_asm); (case N => k_asm); (case T => k_asm); (case hk => exact rfl); (case hd => first | exact roomD (by assumption) (by decide) | ((try dsimp only [ctx] at *); omega)); (case hu => first | exact roomC (by assumption) (by decide) | exact roomU (by assumption) (by decide) | ((try dsimp only [ctx] at *); omega)); k_whole); intro x8 d8 t8 h8 k8 u8 v8 F8 N8 e8 n8; (try k_sweep); (try dsimp only)))); k_steps))
    (refine ⟨_, _, _, rfl, X1.keeps (Fr.keep (by k_asm)), News.get (by k_asm) (.tail _ (.head _)), ?_⟩; (try k_unfold); (try dsimp only); refine leave_made B1 (by k_asm) (by k_asm) (by assumption) fun hh1 fl1 sm1 => ?_; refine rai _ _ _ _ _ ?_ fl1 sm1)
    exact ⟨a1, _, .inr ⟨m, hn⟩, rfl, rfl⟩
end
section




theorem tokSign (w : World) (x b ol wl : Addr) (tw : Tok) (ls : List Int) (a : Nat) (ho : ls.length ≤ 40) (ha : a ≤ 30) (hm : ∀ z, ls[a]? = some z → z = 1 ∨ 20 ≤ z) :
    TellX w 60 249 x b [.ref x, .str "sign" tw, .ref wl] (fun g => Rd w g x b ol ls a) (fun g h' v => ls[a]? = some 1 ∧ RdAt w h' b ol (a + 1) ∧ ∃ tp t, v = .ref tp ∧ g.get? tp = none ∧ h'.get? tp = some (tup2 "sign" tw "-" t)) (fun c v => ∃ p t, (ls[a]? = none ∧ p = a ∨ p = a + 1 ∧ ∃ z, ls[a]? = some z ∧ 20 ≤ z) ∧ c = "SN" ∧ v = .int (p : Nat) t) := by
  unfold TellX
  intro mean mg mb dp un gd l base g gs dr tk os Q E B XB TB hbx hbb hfx hfb hd' hu hP ret rai
  revert XB; k_fill; intro XB
  have cLi := cLine_is
  have reci : recursionLimit = 1000 := rfl
  refine wpAny_call ?_
  k_dflt (refine' enterP (l0 := [("words", _), ("kind", _), ("self", _)]) ?k1 ?k2 ?k3 ?k6 ?k7 ?k8 ?k9 ?kl ?kB ?_ ?c2 ?c3 ?c4 ?c5; (case k1 => exact B); (case k2 => exact XB); (case k3 => exact TB); (case k6 => k_is); (case k7 => k_is); (case k8 => exact roomZ hd'); (case k9 => exact BindsTo.of_eq rfl); (case kl => exact rfl); (case c5 => decide); (case kB => exact locs rfl); (case c2 => exact rfl); (case c3 => exact rfl); (case c4 => exact rfl); k_whole)
  intro L' h' tk0 F' N' X T
  dsimp only
  k_fold
  obtain ⟨hgx, ⟨t1, t2, ta, hgb⟩, hl, nxb, nox, nob⟩ := hP
  have F1 := hide2_fr (x := x) (b := b) F'; have N1 := hide2_news F' N' hgx hgb nxb; have B1 := hide2_below B hbx hbb hfx hfb; have X1 := XB.keeps B1.stays; have T1 := TB.keeps B1.stays; clear F' N' B X T
  have hl1 := hide2_sl hl nox nob
  clear hl
  rcases hn : ls[a]? with _ | z
  · (k_with_none; (k_with "ne" => (first | exact ne_gt (by with_reducible assumption) | exact ne_lt (by with_reducible assumption) | with_reducible assumption | exact Ne.symm (by with_reducible assumption) | exact ne_gt (And.left (by with_reducible assumption)) | exact ne_gt (And.left (And.right (by with_reducible assumption))) | exact ne_gt (And.right (by with_reducible assumption)) | exact ne_gt (And.right (And.right (by with_reducible assumption))) | exact ne_lt (And.left (by with_reducible assumption)) | exact ne_lt (And.left (And.right (by with_reducible assumption))) | exact ne_lt (And.right (by with_reducible assumption)) | exact ne_lt (And.right (And.right (by with_reducible assumption))))); (k_with "call ref" => refine hold34 ?_); (k_with "exec Raise some none" => refine Raise_be rfl ?_); (k_with "call ref" => refine hold228 ?_); k_steps; repeat' ((first | (k_dflt (refine' TellX.useO (takeOk _ _ _ _ _ _ ?q1 ?q2 ?q3) ?B ?F ?N ?hx ?hm ?XB ?TB ?hk ?hd ?hu ?hp ?U ?_); (case B => k_asm); (case F => k_asm); (case N => k_asm); (case XB => k_asm); (case TB => k_asm); (case hp => first | exact rd_of0 (by k_asm) (by k_asm) (by k_mem) (by k_mem) (by assumption) | exact rd_of (by k_asm) (by k_asm) (by k_mem) (by k_mem) (by assumption)); (case hx => k_mem); (case hm => k_mem); (case hk => exact rfl); (case hd => first | exact roomD (by assumption) (by decide) | ((try dsimp only [ctx]); omega)); (case hu => first | exact roomC (by assumption) (by decide) | exact roomU (by assumption) (by decide) | ((try dsimp only [ctx]); omega)); (case U => intro _ _ _; k_upd); (case q1 => assumption); (case q2 => omega); (case q3 => assumption); k_whole; intro h9 tk9 t9 ta9 tb9 tc9 F9 N9b; (try k_sweep); (try dsimp only)) | (k_dflt (refine' TellX.useErr (takeErr _ _ _ _ _ _ ?q1 ?q2 ?q3) ?B ?F ?N ?hx ?hm ?XB ?TB ?hk ?hd ?hu ?hp ?_); (case B => k_asm); (case F => k_asm); (case N => k_asm); (case XB => k_asm); (case TB => k_asm); (case hp => first | exact rd_of0 (by k_asm) (by k_asm) (by k_mem) (by k_mem) (by assumption) | exact rd_of (by k_asm) (by k_asm) (by k_mem) (by k_mem) (by assumption)); (case hx => k_mem); (case hm => k_mem); (case hk => exact rfl); (case hd => first | exact roomD (by assumption) (by decide) | ((try dsimp only [ctx]); omega)); (case hu => first | exact roomC (by assumption) (by decide) | exact roomU (by assumption) (by decide) | ((try dsimp only [ctx]); omega)); (case q1 => assumption); (case q2 => omega); (case q3 => assumption); intro e7 h7 k7 t7 F7 fl7 sm7; (try k_unfold); (try dsimp only); refine leave_fly (by k_asm) F7 fl7 sm7 ?_; refine holdR ?_) | (unfold CHold; (k_dflt (refine' mkBE _ _ _ _ _ _ _ _ _ _ _ _ _ _ _ _ _ _ _ _ _ _ _ _ _ ?B ?F ?X ?N ?T ?hk ?hd ?hu ?_; (case B => k_asm); (case F => k_asm); (case X => k_asm); (case N => k_asm); (case T => k_asm); (case hk => exact rfl); (case hd => first | exact roomD (by assumption) (by decide) | ((try dsimp only [ctx] at *); omega)); (case hu => first | exact roomC (by assumption) (by decide) | exact roomU (by assumption) (by decide) | ((try dsimp only [ctx] at *); omega)); k_whole); intro x8 d8 t8 h8 k8 u8 v8 F8 N8 e8 n8; (try k_sweep); (try dsimp only)))); k_steps))
    unfold RHold
    intro hh fl sm
    refine rai _ _ _ _ _ ?_ fl sm
    exact ⟨a, t7, .inl ⟨hn, rfl⟩, rfl, rfl⟩
  · rcases hm z hn with rfl | hz
    · (k_steps; repeat' ((first | (k_dflt (refine' TellX.useO (takeOk _ _ _ _ _ _ ?q1 ?q2 ?q3) ?B ?F ?N ?hx ?hm ?XB ?TB ?hk ?hd ?hu ?hp ?U ?_); (case B => k_asm); (case F => k_asm); (case N => k_asm); (case XB => k_asm); (case TB => k_asm); (case hp => first | exact rd_of0 (by k_asm) (by k_asm) (by k_mem) (by k_mem) (by assumption) | exact rd_of (by k_asm) (by k_asm) (by k_mem) (by k_mem) (by assumption)); (case hx => k_mem); (case hm => k_mem); (case hk => exact rfl); (case hd => first | exact roomD (by assumption) (by decide) | ((try dsimp only [ctx]); omega)); (case hu => first | exact roomC (by assumption) (by decide) | exact roomU (by assumption) (by decide) | ((try dsimp only [ctx]); omega)); (case U => intro _ _ _; k_upd); (case q1 => assumption); (case q2 => omega); (case q3 => assumption); k_whole; intro h9 tk9 t9 ta9 tb9 tc9 F9 N9b; (try k_sweep); (try dsimp only)) | (k_dflt (refine' TellX.useErr (takeErr _ _ _ _ _ _ ?q1 ?q2 ?q3) ?B ?F ?N ?hx ?hm ?XB ?TB ?hk ?hd ?hu ?hp ?_); (case B => k_asm); (case F => k_asm); (case N => k_asm); (case XB => k_asm); (case TB => k_asm); (case hp => first | exact rd_of0 (by k_asm) (by k_asm) (by k_mem) (by k_mem) (by assumption) | exact rd_of (by k_asm) (by k_asm) (by k_mem) (by k_mem) (by assumption)); (case hx => k_mem); (case hm => k_mem); (case hk => exact rfl); (case hd => first | exact roomD (by assumption) (by decide) | ((try dsimp only [ctx]); omega)); (case hu => first | exact roomC (by assumption) (by decide) | exact roomU (by assumption) (by decide) | ((try dsimp only [ctx]); omega)); (case q1 => assumption); (case q2 => omega); (case q3 => assumption); intro e7 h7 k7 t7 F7 fl7 sm7; (try k_unfold); (try dsimp only); refine leave_fly (by k_asm) F7 fl7 sm7 ?_; refine holdR ?_) | (unfold CHold; (k_dflt (refine' mkBE _ _ _ _ _ _ _ _ _ _ _ _ _ _ _ _ _ _ _ _ _ _ _ _ _ ?B ?F ?X ?N ?T ?hk ?hd ?hu ?_; (case B => k_asm); (case F => k_asm); (case X => k_asm); (case N => k_asm); (case T => k_asm); (case hk => exact rfl); (case hd => first | exact roomD (by assumption) (by decide) | ((try dsimp only [ctx] at *); omega)); (case hu => first | exact roomC (by assumption) (by decide) | exact roomU (by assumption) (by decide) | ((try dsimp only [ctx] at *); omega)); k_whole); intro x8 d8 t8 h8 k8 u8 v8 F8 N8 e8 n8; (try k_sweep); (try dsimp only)))); k_steps))
      ((try dsimp only); (try (first | k_unfold | dsimp only [qk])); (try dsimp only); unfold LeaveP; dsimp only; refine ret _ _ _ (staysX_of hgx (News.get (by k_asm) (by k_mem)) (Fr.keep (by k_asm))) ?_; try dsimp only)
      refine ⟨hn, ⟨_, _, _, News.get (by k_asm) (by k_mem)⟩, _, _, rfl, ?_, News.get (by k_asm) (.head _)⟩
      refine fresh2 (by k_asm) (.head _) (by k_mem) (by k_mem) ?_ ?_ <;> (intro q; first | (cases q; done) | (have z := congrArg Obj.cls q; injection z with z; exact absurd z (by decide)))
    · (k_steps; repeat' ((first | (k_dflt (refine' TellX.useO (takeOk _ _ _ _ _ _ ?q1 ?q2 ?q3) ?B ?F ?N ?hx ?hm ?XB ?TB ?hk ?hd ?hu ?hp ?U ?_); (case B => k_asm); (case F => k_asm); (case N => k_asm); (case XB => k_asm); (case TB => k_asm); (case hp => first | exact rd_of0 (by k_asm) (by k_asm) (by k_mem) (by k_mem) (by assumption) | exact rd_of (by k_asm) (by k_asm) (by k_mem) (by k_mem) (by assumption)); (case hx => k_mem); (case hm => k_mem); (case hk => exact rfl); (case hd => first | exact roomD (by assumption) (by decide) | ((try dsimp only [ctx]); omega)); (case hu => first | exact roomC (by assumption) (by decide) | exact roomU (by assumption) (by decide) | ((try dsimp only [ctx]); omega)); (case U => intro _ _ _; k_upd); (case q1 => assumption); (case q2 => omega); (case q3 => assumption); k_whole; intro h9 tk9 t9 ta9 tb9 tc9 F9 N9b; (try k_sweep); (try dsimp only)) | (k_dflt (refine' TellX.useErr (takeErr _ _ _ _ _ _ ?q1 ?q2 ?q3) ?B ?F ?N ?hx ?hm ?XB ?TB ?hk ?hd ?hu ?hp ?_); (case B => k_asm); (case F => k_asm); (case N => k_asm); (case XB => k_asm); (case TB => k_asm); (case hp => first | exact rd_of0 (by k_asm) (by k_asm) (by k_mem) (by k_mem) (by assumption) | exact rd_of (by k_asm) (by k_asm) (by k_mem) (by k_mem) (by assumption)); (case hx => k_mem); (case hm => k_mem); (case hk => exact rfl); (case hd => first | exact roomD (by assumption) (by decide) | ((try dsimp only [ctx]); omega)); (case hu => first | exact roomC (by assumption) (by decide) | exact roomU (by assumption) (by decide) | ((try dsimp only [ctx]); omega)); (case q1 => assumption); (case q2 => omega); (case q3 => assumption); intro e7 h7 k7 t7 F7 fl7 sm7; (try k_unfold); (try dsimp only); refine leave_fly (by k_asm) F7 fl7 sm7 ?_; refine holdR ?_) | (unfold CHold; (k_dflt (refine' mkBE _ _ _ _ _ _ _ _ _ _ _ _ _ _ _ _ _ _ _ _ _ _ _ _ _ ?B ?F ?X ?N ?T ?hk ?hd ?hu ?_; (case B => k_asm); (case F => k_asm); (case X => k_asm); (case N => k_asm); (case T => k_asm); (case hk => exact rfl); (case hd => first | exact roomD (by assumption) (by decide) | ((try dsimp only [ctx] at *); omega)); (case hu => first | exact roomC (by assumption) (by decide) | exact roomU (by assumption) (by decide) | ((try dsimp only [ctx] at *); omega)); k_whole); intro x8 d8 t8 h8 k8 u8 v8 F8 N8 e8 n8; (try k_sweep); (try dsimp only)))); k_steps))
      (refine ⟨_, _, _, rfl, X1.keeps (Fr.keep (by k_asm)), News.get (by k_asm) (.tail _ (.head _)), ?_⟩; (try k_unfold); (try dsimp only); refine leave_made B1 (by k_asm) (by k_asm) (by assumption) fun hh1 fl1 sm1 => ?_; refine rai _ _ _ _ _ ?_ fl1 sm1)
      exact ⟨a + 1, _, .inr ⟨rfl, z, hn, hz⟩, rfl, rfl⟩
end
section

theorem tokText (w : World) (x b ol wl : Addr) (k : Str) (tw : Tok) (ls : List Int) (a : Nat) (ho : ls.length ≤ 40) (ha : a ≤ 30) (hb : ∀ z ∈ ls, 0 ≤ z ∧ z < 256) (hm : ∀ m a1, numS ls 4 a 0 1 = .ok (m, a1) → m = 1 ∨ m = 3) (hk : k = "name" ∨ k = "number" ∨ k = "text") :
    TellX w 60 249 x b [.ref x, .str k tw, .ref wl] (fun g => Rd w g x b ol ls a) (fun g h' v => ∃ a' u, RdAt w h' b ol a' ∧ textS ls a = .ok (u, a') ∧ ∃ tp t, v = .ref tp ∧ g.get? tp = none ∧ h'.get? tp = some (tup2 k tw u t)) (fun c v => ∃ p t, textS ls a = .error p ∧ c = "SN" ∧ v = .int (p : Nat) t) := by
  unfold TellX
  intro mean mg mb dp un gd l base g gs dr tk os Q E B XB TB hbx hbb hfx hfb hd' hu hP ret rai
  revert XB; k_fill; intro XB
  have cLi := cLine_is
  have reci : recursionLimit = 1000 := rfl
  refine wpAny_call ?_
  k_dflt (refine' enterP (l0 := [("words", _), ("kind", _), ("self", _)]) ?k1 ?k2 ?k3 ?k6 ?k7 ?k8 ?k9 ?kl ?kB ?_ ?c2 ?c3 ?c4 ?c5; (case k1 => exact B); (case k2 => exact XB); (case k3 => exact TB); (case k6 => k_is); (case k7 => k_is); (case k8 => exact roomZ hd'); (case k9 => exact BindsTo.of_eq rfl); (case kl => exact rfl); (case c5 => decide); (case kB => exact locs rfl); (case c2 => exact rfl); (case c3 => exact rfl); (case c4 => exact rfl); k_whole)
  intro L' h' tk0 F' N' X T
  dsimp only
  k_fold
  obtain ⟨hgx, ⟨t1, t2, ta, hgb⟩, hl, nxb, nox, nob⟩ := hP
  have F1 := hide2_fr (x := x) (b := b) F'; have N1 := hide2_news F' N' hgx hgb nxb; have B1 := hide2_below B hbx hbb hfx hfb; have X1 := XB.keeps B1.stays; have T1 := TB.keeps B1.stays; clear F' N' B X T
  have hl1 := hide2_sl hl nox nob
  clear hl
  rcases hk with rfl | rfl | rfl
  all_goals (k_with_none; (k_with "ne" => (first | exact ne_gt (by with_reducible assumption) | exact ne_lt (by with_reducible assumption) | with_reducible assumption | exact Ne.symm (by with_reducible assumption) | exact ne_gt (And.left (by with_reducible assumption)) | exact ne_gt (And.left (And.right (by with_reducible assumption))) | exact ne_gt (And.right (by with_reducible assumption)) | exact ne_gt (And.right (And.right (by with_reducible assumption))) | exact ne_lt (And.left (by with_reducible assumption)) | exact ne_lt (And.left (And.right (by with_reducible assumption))) | exact ne_lt (And.right (by with_reducible assumption)) | exact ne_lt (And.right (And.right (by with_reducible assumption))))); (k_with "call ref" => refine hold242 ?_); k_steps; repeat' ((first | (k_dflt (refine' TellX.useS (text _ _ _ _ _ _ ?q1 ?q2 ?q3 ?q4) ?B ?F ?N ?hx ?hm ?XB ?TB ?hk ?hd ?hu ?hp ?U ?_ ?_); (case B => k_asm); (case F => k_asm); (case N => k_asm); (case XB => k_asm); (case TB => k_asm); (case hp => first | exact rd_of0 (by k_asm) (by k_asm) (by k_mem) (by k_mem) (by assumption) | exact rd_of (by k_asm) (by k_asm) (by k_mem) (by k_mem) (by assumption)); (case hx => k_mem); (case hm => k_mem); (case hk => exact rfl); (case hd => first | exact roomD (by assumption) (by decide) | ((try dsimp only [ctx]); omega)); (case hu => first | exact roomC (by assumption) (by decide) | exact roomU (by assumption) (by decide) | ((try dsimp only [ctx]); omega)); (case U => intro _ _ _ _; k_upd); (case q1 => assumption); (case q2 => omega); (case q3 => assumption); (case q4 => assumption); (rotate_left 1; intro e7 h7 k7 p7 t7 x7 F7 fl7 sm7; (try k_unfold); (try dsimp only); refine leave_fly (by k_asm) F7 fl7 sm7 ?_; refine holdR ?_; rotate_right 1); k_whole; intro h9 tk9 a9 u9 t9 ta9 tb9 tc9 q9 F9 N9b; (try k_sweep); (try dsimp only))); k_steps))
  all_goals first
    | (((try dsimp only); (try (first | k_unfold | dsimp only [qk])); (try dsimp only); unfold LeaveP; dsimp only; refine ret _ _ _ (staysX_of hgx (News.get (by k_asm) (by k_mem)) (Fr.keep (by k_asm))) ?_; try dsimp only)
       refine ⟨_, _, ⟨_, _, _, News.get (by k_asm) (by k_mem)⟩, by assumption, _, _, rfl, ?_, News.get (by k_asm) (.head _)⟩
       refine fresh2 (by k_asm) (.head _) (by k_mem) (by k_mem) ?_ ?_ <;> (intro q; first | (cases q; done) | (have z := congrArg Obj.cls q; injection z with z; exact absurd z (by decide))))
    | (unfold RHold
       intro hh fl sm
       exact rai _ _ _ _ _ ⟨_, _, x7, rfl, rfl⟩ fl sm)
end
end Mine
/-! T36 -/
namespace Mine
theorem start_T36 : True := by
  w_top off
  trivial
local macro_rules | `(tactic| k_room) => `(tactic| first | k_extra "room" | ((try dsimp only [Around.deeper, Around.mark, Around.in1]); omega))
def tokS (ls : List Int) (a : Nat) (k : Int) : Option (Except Nat Nat) :=
  if k = 1 then (match numS ls 4 a 0 1 with
    | .error q => some (.error q)
    | .ok (m, a1) => if 120 ≤ m then some (.error a1) else none)
  else if k = 5 then (match ls[a]? with
    | none => some (.error a)
    | some z => if z = 1 then some (.ok (a + 1)) else if 20 ≤ z then some (.error (a + 1)) else none)
  else if k = 2 ∨ k = 3 ∨ k = 4 then (match numS ls 4 a 0 1 with
    | .error q => some (.error q)
    | .ok (m, a1) => if m = 1 ∨ m = 3 then (match takesS ls m.toNat a1 "" with
      | .error q => some (.error q)
      | .ok (_, a') => some (.ok a')) else none)
  else none
def run (ls : List Int) : Nat → Nat → Int → Option Nat
  | 0, _, _ => none
  | n+1, a, k => if 8 ≤ k then some a else match tokS ls a k with
    | some (.error q) => some q
    | some (.ok a') => (match ls[a']? with
      | none => some a'
      | some z => run ls n (a' + 1) z)
    | none => none
def runs (ls : List Int) : Option Nat := match ls[0]? with
  | none => some 0
  | some z => run ls 10 1 z
section
variable {prog : Program} {w : World} {A : Around} {E : Value → Shared → Prop} {s : Shared} {h₀ : Heap} {L : Addr} {m : Str → Option Value} {news : List (Addr × Obj)}
theorem attr_dgetN {kvs : List (Str × Value)} {d : Addr} {o : Obj} {Q : Value → Shared → Prop} {expr : Bool} (F : Fr h₀ L s.heap m) (N : News h₀ L s.heap news) (hp : (d, o) ∈ news) (hd : o.IsDictOf (PySem.strKind prog w) kvs)
    (h : ∀ x h', Fr h₀ L h' m → News h₀ L h' ((x, boundGet d) :: news) → (∀ p ∈ news, p.1 < x) → Q (.ref x) { s with heap := h', toks := s.toks + 1 }) : wpAny (model prog w) A (getAttr (.ref d) "get" expr) Q E s := by
  obtain ⟨es, n, ⟨hc, hdd, _⟩, hdat, _⟩ := hd
  exact attr_dget (N _ hp).1 hc hdd ⟨es, n, hdat⟩ (h _ _ (F.push _) (N.push F _) fun p hp => Heap.lt_size (N p hp).1)
end
theorem takes_le {ls : List Int} {n a a' : Nat} {f u : Str} (h : takesS ls n a f = .ok (u, a')) : a' = a + n := by
  induction n generalizing a f with
  | zero => cases h; rfl
  | succ n ih =>
    unfold takesS at h
    split at h
    · cases h
    · have := ih h; omega
theorem text_le {ls : List Int} {a a' : Nat} {u : Str} (hm : ∀ m a1, numS ls 4 a 0 1 = .ok (m, a1) → m = 1 ∨ m = 3) (h : textS ls a = .ok (u, a')) : a' ≤ a + 7 := by
  unfold textS at h
  split at h
  · cases h
  · rename_i m a1 e
    have h1 := takes_le h
    have h2 := num_le _ _ e
    rcases hm _ _ e with rfl | rfl
    · have : ((1 : Int)).toNat = 1 := rfl
      omega
    · have : ((3 : Int)).toNat = 3 := rfl
      omega
def Next (ls : List Int) (n a p : Nat) : Prop := (ls[a]? = none → a = p) ∧ ∀ z, ls[a]? = some z → run ls n (a + 1) z = some p
theorem next_of {ls : List Int} {n a p : Nat} (h : (match ls[a]? with | none => some a | some z => run ls n (a + 1) z) = some p) : Next ls n a p := by
  constructor
  · intro e; rw [e] at h; cases h; rfl
  · intro z e; rw [e] at h; exact h
theorem run_cases {ls : List Int} {n a p : Nat} {k : Int} (h8 : ¬ 8 ≤ k) (h : run ls (n + 1) a k = some p) :
    (k = 1 ∧ (∀ m a1, numS ls 4 a 0 1 = .ok (m, a1) → 120 ≤ m) ∧ ∀ q, (numS ls 4 a 0 1 = .error q ∨ ∃ m, numS ls 4 a 0 1 = .ok (m, q)) → q = p)
    ∨ (k = 5 ∧ (∀ z, ls[a]? = some z → z = 1 ∨ 20 ≤ z) ∧ (∀ q, (ls[a]? = none ∧ q = a ∨ q = a + 1 ∧ ∃ z, ls[a]? = some z ∧ 20 ≤ z) → q = p) ∧ (ls[a]? = some 1 → Next ls n (a + 1) p))
    ∨ ((k = 2 ∨ k = 3 ∨ k = 4) ∧ (∀ m a1, numS ls 4 a 0 1 = .ok (m, a1) → m = 1 ∨ m = 3) ∧ (∀ q, textS ls a = .error q → q = p) ∧ ∀ u a', textS ls a = .ok (u, a') → Next ls n a' p) := by
  unfold run at h
  rw [if_neg h8] at h
  by_cases h1 : k = 1
  · refine .inl ⟨h1, ?_⟩
    unfold tokS at h
    rw [if_pos h1] at h
    rcases hn : numS ls 4 a 0 1 with q | ⟨m, a1⟩
    · rw [hn] at h; cases h
      exact ⟨fun _ _ z => by (cases z), fun q z => by
        rcases z with z | ⟨_, z⟩ <;> cases z
        rfl⟩
    · rw [hn] at h
      by_cases h120 : 120 ≤ m
      · dsimp only at h
        rw [if_pos h120] at h; cases h
        exact ⟨fun _ _ z => by (cases z; exact h120), fun q z => by
          rcases z with z | ⟨_, z⟩ <;> cases z
          rfl⟩
      · dsimp only at h
        rw [if_neg h120] at h; cases h
  · by_cases h5 : k = 5
    · refine .inr (.inl ⟨h5, ?_⟩)
      unfold tokS at h
      rw [if_neg h1, if_pos h5] at h
      rcases hn : ls[a]? with _ | z
      · rw [hn] at h; cases h
        refine ⟨fun _ z => by (cases z), fun q z => ?_, fun z => by (cases z)⟩
        rcases z with ⟨_, rfl⟩ | ⟨_, _, z, _⟩
        · rfl
        · cases z
      · rw [hn] at h
        dsimp only at h
        by_cases hz : z = 1
        · subst hz
          rw [if_pos rfl] at h
          refine ⟨fun _ z => by (cases z; exact .inl rfl), fun q z => ?_, fun _ => next_of h⟩
          rcases z with ⟨z, _⟩ | ⟨_, _, z, h20⟩
          · cases z
          · cases z; exact absurd h20 (by decide)
        · rw [if_neg hz] at h
          by_cases h20 : 20 ≤ z
          · rw [if_pos h20] at h; cases h
            refine ⟨fun _ z => by (cases z; exact .inr h20), fun q z => ?_, fun z => by (cases z; exact absurd rfl hz)⟩
            rcases z with ⟨z, _⟩ | ⟨rfl, _, z, h20⟩
            · cases z
            · rfl
          · rw [if_neg h20] at h; cases h
    · by_cases h2 : k = 2 ∨ k = 3 ∨ k = 4
      · refine .inr (.inr ⟨h2, ?_⟩)
        unfold tokS at h
        rw [if_neg h1, if_neg h5, if_pos h2] at h
        unfold textS
        rcases hn : numS ls 4 a 0 1 with q | ⟨m, a1⟩
        · rw [hn] at h; cases h
          exact ⟨fun _ _ z => by (cases z), fun q z => by (cases z; rfl), fun _ _ z => by cases z⟩
        · rw [hn] at h
          dsimp only at h ⊢
          by_cases hm : m = 1 ∨ m = 3
          · rw [if_pos hm] at h
            refine ⟨fun _ _ z => by (cases z; exact hm), ?_⟩
            rcases ht : takesS ls m.toNat a1 "" with q | ⟨u, a'⟩
            · rw [ht] at h; cases h
              exact ⟨fun q z => by (cases z; rfl), fun _ _ z => by cases z⟩
            · rw [ht] at h
              exact ⟨fun q z => by (cases z), fun _ _ z => by (cases z; exact next_of h)⟩
          · rw [if_neg hm] at h; cases h
      · have e : tokS ls a k = none := by unfold tokS; rw [if_neg h1, if_neg h5, if_neg h2]
        rw [e] at h; cases h
theorem words_of {g h : Heap} {L x b D : Addr} {all : List (Addr × Obj)} {out : Array Value} {c : Nat} (N : News g L h all) (hD : (D, seqObj "list" out c) ∈ all) (hz : out.size ≤ 120) (nx : D ≠ x) (nb : D ≠ b) : Words h x b D := ⟨out, ⟨_, (N _ hD).1, rfl, c, rfl⟩, hz, nx, nb⟩
theorem kind_map (a : Str) (X X' : Option Value) (f : Str → Option Value) : (fun y => if y = a then X' else if y = a then X else f y) = fun y => if y = a then X' else f y := by
  funext y
  by_cases h : y = a
  · rw [if_pos h, if_pos h]
  · rw [if_neg h, if_neg h, if_neg h]
theorem news4 {g h : Heap} {L : Addr} {all : List (Addr × Obj)} {p1 p2 p3 p4 : Addr × Obj} (N : News g L h all) (h1 : p1 ∈ all) (h2 : p2 ∈ all) (h3 : p3 ∈ all) (h4 : p4 ∈ all) : News g L h [p1, p2, p3, p4] := by
  intro p hp
  simp only [List.mem_cons, List.not_mem_nil, or_false] at hp
  rcases hp with rfl | rfl | rfl | rfl
  · exact N _ h1
  · exact N _ h2
  · exact N _ h3
  · exact N _ h4
/-- where the loop over a row's octets stands -/
inductive RunJ (w : World) (g : Heap) (L ol : Addr) (gs : Array GenState) (dr : Drawn) (os : OsState) (n a : Nat) (k : Int) : Shared → Prop
  | mk (h : Heap) (tk : Nat) (x d D fl : Addr) (nu : Value) (its : Array Value) (c2 : Nat) (out : Array Value) (c : Nat) (ta tb tc kt : Tok) :
    Fr g L h (fun y => if y = "kind" then some (.int k kt) else if y = "reader" then some (.ref x) else if y = "words" then some (.ref D) else if y = "numbers" then some nu else if y = "found" then some (.ref fl) else List.lookup y [("octets", .ref ol)]) →
    News g L h [(x, instObj 252 d), (d, rdDict w ol a ta tb tc), (D, seqObj "list" out c), (fl, W.listOf its c2)] → @LT.lt Nat instLTNat fl D → @LT.lt Nat instLTNat D d → @LT.lt Nat instLTNat d x → its.size + n ≤ 10 → out.size ≤ 120 → RunJ w g L ol gs dr os n a k ⟨h, gs, dr, tk, os⟩
theorem kinds_item {w : World} {prog : Program} {w' : World} {A : Around} {E : Value → Shared → Prop} {g : Heap} {L : Addr} {m : Str → Option Value} {value slice : PySem.Expr} {k : Int} {u : Tok} {Q : Value → Shared → Prop} {s : Shared} (X : (_root_.MineH.hd.heap_1 w.params).In g) (F : Fr g L s.heap m) (hk : k = 2 ∨ k = 3 ∨ k = 4) (h : ∀ (x : Str) (t : Tok), (x = "name" ∨ x = "number" ∨ x = "text") → Q (.str x t) s)
    (hs : subscripted slice false (.ref 185) (.int k u) = operate [.ref 185, .int k u] (getItem (.ref 185) (.int k u)) := by with_unfolding_all rfl) : wpAny (model prog w') A (subscriptTail value slice (.ref 185) (.int k u)) Q E s := by
  have ht : IsTup s.heap 185 _ := ⟨_, F.keep _ _ (X 185 _ rfl), rfl, _, rfl⟩
  rcases hk with rfl | rfl | rfl
  · exact item_tupleT ht (by decide) (by decide) rfl rfl (h "name" _ (.inl rfl)) hs
  · exact item_tupleT ht (by decide) (by decide) rfl rfl (h "number" _ (.inr (.inl rfl))) hs
  · exact item_tupleT ht (by decide) (by decide) rfl rfl (h "text" _ (.inr (.inr rfl))) hs
def KHold (P : Prop) : Prop := P
theorem holdK {M : Model} {A : Around} {value slice : PySem.Expr} {k : Int} {u : Tok} {Q E : Value → Shared → Prop} {s : Shared} (_ : k = 2 ∨ k = 3 ∨ k = 4) (h : KHold (wpAny M A (subscriptTail value slice (.ref 185) (.int k u)) Q E s)) : wpAny M A (subscriptTail value slice (.ref 185) (.int k u)) Q E s := h
section








theorem push_add (its : Array Value) (v : Value) (n : Nat) : (its.push v).size + n = its.size + (n + 1) := by rw [Array.size_push]; omega
theorem uncrErr (w : World) (ol : Addr) (ls : List Int) (p : Nat) (hlen : ls.length ≤ 20) (hb : ∀ z ∈ ls, 0 ≤ z ∧ z < 256) (H : runs ls = some p) : Tell w 70 263 [.ref ol] (fun g => SL g ol ls) (fun _ _ _ => False) (fun c v => c = "SN" ∧ ∃ t, v = .int p t) := by
  unfold Tell
  intro mean mg mb dp un gd l base g gs dr tk os Q E B XB TB hd' hu hP ret rai
  revert XB; k_fill; intro XB
  have cLi := cLine_is
  have reci : recursionLimit = 1000 := rfl
  refine wpAny_call ?_
  k_dflt (refine' enterP (l0 := [("octets", _)]) ?k1 ?k2 ?k3 ?k6 ?k7 ?k8 ?k9 ?kl ?kB ?_ ?c2 ?c3 ?c4 ?c5; (case k1 => exact B); (case k2 => exact XB); (case k3 => exact TB); (case k6 => k_is); (case k7 => k_is); (case k8 => exact roomZ hd'); (case k9 => exact BindsTo.of_eq rfl); (case kl => exact rfl); (case c5 => decide); (case kB => exact locs rfl); (case c2 => exact rfl); (case c3 => exact rfl); (case c4 => exact rfl); k_whole)
  intro L' h' tk0 F' N' X T
  dsimp only
  k_fold
  have hl : SL g ol ls := hP
  (k_with_none; (k_with "ne" => (first | exact ne_gt (by with_reducible assumption) | exact ne_lt (by with_reducible assumption) | with_reducible assumption | exact Ne.symm (by with_reducible assumption) | exact ne_gt (And.left (by with_reducible assumption)) | exact ne_gt (And.left (And.right (by with_reducible assumption))) | exact ne_gt (And.right (by with_reducible assumption)) | exact ne_gt (And.right (And.right (by with_reducible assumption))) | exact ne_lt (And.left (by with_reducible assumption)) | exact ne_lt (And.left (And.right (by with_reducible assumption))) | exact ne_lt (And.right (by with_reducible assumption)) | exact ne_lt (And.right (And.right (by with_reducible assumption))))); (k_with "room" => (first | exact roomD (by assumption) (by decide) | exact roomD (by assumption) (Nat.le_of_ble_eq_true rfl) | exact roomC (by assumption) (by decide))); (k_with "call ref" => refine hold34 ?_); (k_with "exec Raise some none" => refine Raise_be rfl ?_); (k_with "call ref" => refine hold207 ?_); (k_with "getAttr ref" => ((with_reducible show wpAny _ _ (getAttr _ (Str.ofString "get") _) _ _ _); (k_dflt (refine' attr_dgetN ?FKw ?NKw ?pKw ?dKw ?_; (case FKw => k_asm); (case NKw => k_asm); (case pKw => k_mem); (case dKw => assumption); k_whole)); intro x' h' F' N' l1; (try k_lt l1); (try k_sweep))); (k_with "call builtin:sorted" => ((k_dflt (refine' sortedKeys ?hhKw ?FKw ?NKw ?pKw ?qKw ?dKw ?loKw ?nkKw ?lnKw ?_; (case hhKw => exact rfl); (case FKw => k_asm); (case NKw => k_asm); (case pKw => k_mem); (case qKw => k_mem); (case dKw => assumption); (case loKw => assumption); (case nkKw => assumption); (case lnKw => omega); k_whole)); intro D' h' tk' out' c' F' N' l1 z'; (try k_lt l1); (try k_sweep))); (k_with "call ref" => refine hold228 ?_); (k_with "call ref" => refine hold249 ?_); (k_with "subscriptTail" => refine holdK (by with_reducible assumption) ?_); (k_with "exec While" => refine holdW ?_); k_steps; repeat' ((first | (unfold CHold; (k_dflt (refine' Tell.useW (wordNumbers _) ?B ?F ?N ?XB ?TB ?hk ?hd ?hu ?hp ?_ ?_); (case B => k_asm); (case F => k_asm); (case N => k_asm); (case XB => k_asm); (case TB => k_asm); (case hk => exact rfl); (case hd => first | exact roomD (by assumption) (by decide) | ((try dsimp only [ctx] at *); omega)); (case hu => first | exact roomC (by assumption) (by decide) | exact roomU (by assumption) (by decide) | ((try dsimp only [ctx] at *); omega)); (case hp => first | trivial | assumption);  (try any_goals (exact fun _ _ _ _ _ z => z.elim)); k_whole; intro v9 h9 tk9 u9 F9 N9 r9; (obtain ⟨d9, o9, k9, r9, n9, lo9, g9, i9, nk9, ln9⟩ := r9); subst r9; (obtain ⟨N9b, q9⟩ := u9 _ _ n9 g9); (try simp only [AllNe, and_true] at q9); clear N9;  (try k_sweep); (try dsimp only))) | (unfold CHold; (k_dflt (refine' mkBE _ _ _ _ _ _ _ _ _ _ _ _ _ _ _ _ _ _ _ _ _ _ _ _ _ ?B ?F ?X ?N ?T ?hk ?hd ?hu ?_; (case B => k_asm); (case F => k_asm); (case X => k_asm); (case N => k_asm); (case T => k_asm); (case hk => exact rfl); (case hd => first | exact roomD (by assumption) (by decide) | ((try dsimp only [ctx] at *); omega)); (case hu => first | exact roomC (by assumption) (by decide) | exact roomU (by assumption) (by decide) | ((try dsimp only [ctx] at *); omega)); k_whole); intro x8 d8 t8 h8 k8 u8 v8 F8 N8 e8 n8; (try k_sweep); (try dsimp only)))); k_steps))
  (k_dflt (refine' TellX.useI (take _ _ _ _ _ _ ?q1 ?q2) ?B ?F ?N ?hx ?hm ?XB ?TB ?hk ?hd ?hu ?hp ?U ?_ ?_); (case B => k_asm); (case F => k_asm); (case N => k_asm); (case XB => k_asm); (case TB => k_asm); (case hp => first | exact rd_of0 (by k_asm) (by k_asm) (by k_mem) (by k_mem) (by assumption) | exact rd_of (by k_asm) (by k_asm) (by k_mem) (by k_mem) (by assumption)); (case hx => k_mem); (case hm => k_mem); (case hk => exact rfl); (case hd => first | exact roomD (by assumption) (by decide) | ((try dsimp only [ctx]); omega)); (case hu => first | exact roomC (by assumption) (by decide) | exact roomU (by assumption) (by decide) | ((try dsimp only [ctx]); omega)); (case U => intro _ _ _; k_upd); (case q1 => omega); (case q2 => omega); (rotate_left 1; intro e7 h7 k7 t7 x7 F7 fl7 sm7; (try k_unfold); (try dsimp only); refine leave_fly (by k_asm) F7 fl7 sm7 ?_; refine holdR ?_; rotate_right 1); k_whole; intro h9 tk9 z9 t9 ta9 tb9 tc9 q9 F9 N9b; (try k_sweep); (try dsimp only))
  · (k_steps; repeat' ((first | (unfold CHold; (k_dflt (refine' Tell.useW (wordNumbers _) ?B ?F ?N ?XB ?TB ?hk ?hd ?hu ?hp ?_ ?_); (case B => k_asm); (case F => k_asm); (case N => k_asm); (case XB => k_asm); (case TB => k_asm); (case hk => exact rfl); (case hd => first | exact roomD (by assumption) (by decide) | ((try dsimp only [ctx] at *); omega)); (case hu => first | exact roomC (by assumption) (by decide) | exact roomU (by assumption) (by decide) | ((try dsimp only [ctx] at *); omega)); (case hp => first | trivial | assumption);  (try any_goals (exact fun _ _ _ _ _ z => z.elim)); k_whole; intro v9 h9 tk9 u9 F9 N9 r9; (obtain ⟨d9, o9, k9, r9, n9, lo9, g9, i9, nk9, ln9⟩ := r9); subst r9; (obtain ⟨N9b, q9⟩ := u9 _ _ n9 g9); (try simp only [AllNe, and_true] at q9); clear N9;  (try k_sweep); (try dsimp only))) | (unfold CHold; (k_dflt (refine' mkBE _ _ _ _ _ _ _ _ _ _ _ _ _ _ _ _ _ _ _ _ _ _ _ _ _ ?B ?F ?X ?N ?T ?hk ?hd ?hu ?_; (case B => k_asm); (case F => k_asm); (case X => k_asm); (case N => k_asm); (case T => k_asm); (case hk => exact rfl); (case hd => first | exact roomD (by assumption) (by decide) | ((try dsimp only [ctx] at *); omega)); (case hu => first | exact roomC (by assumption) (by decide) | exact roomU (by assumption) (by decide) | ((try dsimp only [ctx] at *); omega)); k_whole); intro x8 d8 t8 h8 k8 u8 v8 F8 N8 e8 n8; (try k_sweep); (try dsimp only)))); k_steps))
    unfold WHold
    rename Fr g L' _ _ => F0
    rename News g L' _ _ => N0
    rename Array.size _ = List.length _ => z0
    rename List.length _ ≤ 120 => z1
    rename (ls[0]? = some _) => e0
    rename (_ < _ ∧ _ < _ ∧ _ < _ ∧ _ < _ ∧ _ < _) => o5
    rename (_ < _ ∧ _ < _ ∧ _ < _ ∧ _ < _) => o4
    have e1 : 0 < ls.length := (List.getElem?_eq_some_iff.mp e0).1
    have H' := H
    unfold runs at H'
    rw [e0] at H'
    dsimp only at H'
    refine while_rule (ι := Nat × Nat × Int) (fun i s => i.2.1 ≤ ls.length ∧ run ls i.1 i.2.1 i.2.2 = some p ∧ RunJ w g L' ol gs dr os i.1 i.2.1 i.2.2 s) (fun i => i.1) ?hE ?turn (10, 1, z9) _ ?init
    case hE => with_unfolding_all passes_own
    case turn =>
      rintro ⟨n, a, k⟩ s ⟨ha, hr, hj⟩
      clear F0 N0 H' e0
      dsimp only at ha hr hj ⊢
      obtain ⟨h, tk, x, d, D, fl, nu, its, c2, out, c, ta, tb, tc, kt, F2, N2, o1, o2, o3, hz, hout⟩ := hj
      cases n with
      | zero => cases hr
      | succ n =>
        have o12 := Nat.lt_trans o1 o2
        have o23 := Nat.lt_trans o2 o3
        have o123 := Nat.lt_trans o12 o3
        by_cases h8 : 8 ≤ k
        · unfold run at hr
          rw [if_pos h8] at hr
          cases hr
          (k_steps; repeat' ((first | (unfold CHold; (k_dflt (refine' Tell.useW (wordNumbers _) ?B ?F ?N ?XB ?TB ?hk ?hd ?hu ?hp ?_ ?_); (case B => k_asm); (case F => k_asm); (case N => k_asm); (case XB => k_asm); (case TB => k_asm); (case hk => exact rfl); (case hd => first | exact roomD (by assumption) (by decide) | ((try dsimp only [ctx] at *); omega)); (case hu => first | exact roomC (by assumption) (by decide) | exact roomU (by assumption) (by decide) | ((try dsimp only [ctx] at *); omega)); (case hp => first | trivial | assumption);  (try any_goals (exact fun _ _ _ _ _ z => z.elim)); k_whole; intro v9 h9 tk9 u9 F9 N9 r9; (obtain ⟨d9, o9, k9, r9, n9, lo9, g9, i9, nk9, ln9⟩ := r9); subst r9; (obtain ⟨N9b, q9⟩ := u9 _ _ n9 g9); (try simp only [AllNe, and_true] at q9); clear N9;  (try k_sweep); (try dsimp only))) | (unfold CHold; (k_dflt (refine' mkBE _ _ _ _ _ _ _ _ _ _ _ _ _ _ _ _ _ _ _ _ _ _ _ _ _ ?B ?F ?X ?N ?T ?hk ?hd ?hu ?_; (case B => k_asm); (case F => k_asm); (case X => k_asm); (case N => k_asm); (case T => k_asm); (case hk => exact rfl); (case hd => first | exact roomD (by assumption) (by decide) | ((try dsimp only [ctx] at *); omega)); (case hu => first | exact roomC (by assumption) (by decide) | exact roomU (by assumption) (by decide) | ((try dsimp only [ctx] at *); omega)); k_whole); intro x8 d8 t8 h8 k8 u8 v8 F8 N8 e8 n8; (try k_sweep); (try dsimp only)))); k_steps))
          refine WhlIf.yes (by simp; omega) ?_
          (k_steps; repeat' ((first | (unfold CHold; (k_dflt (refine' Tell.useW (wordNumbers _) ?B ?F ?N ?XB ?TB ?hk ?hd ?hu ?hp ?_ ?_); (case B => k_asm); (case F => k_asm); (case N => k_asm); (case XB => k_asm); (case TB => k_asm); (case hk => exact rfl); (case hd => first | exact roomD (by assumption) (by decide) | ((try dsimp only [ctx] at *); omega)); (case hu => first | exact roomC (by assumption) (by decide) | exact roomU (by assumption) (by decide) | ((try dsimp only [ctx] at *); omega)); (case hp => first | trivial | assumption);  (try any_goals (exact fun _ _ _ _ _ z => z.elim)); k_whole; intro v9 h9 tk9 u9 F9 N9 r9; (obtain ⟨d9, o9, k9, r9, n9, lo9, g9, i9, nk9, ln9⟩ := r9); subst r9; (obtain ⟨N9b, q9⟩ := u9 _ _ n9 g9); (try simp only [AllNe, and_true] at q9); clear N9;  (try k_sweep); (try dsimp only))) | (unfold CHold; (k_dflt (refine' mkBE _ _ _ _ _ _ _ _ _ _ _ _ _ _ _ _ _ _ _ _ _ _ _ _ _ ?B ?F ?X ?N ?T ?hk ?hd ?hu ?_; (case B => k_asm); (case F => k_asm); (case X => k_asm); (case N => k_asm); (case T => k_asm); (case hk => exact rfl); (case hd => first | exact roomD (by assumption) (by decide) | ((try dsimp only [ctx] at *); omega)); (case hu => first | exact roomC (by assumption) (by decide) | exact roomU (by assumption) (by decide) | ((try dsimp only [ctx] at *); omega)); k_whole); intro x8 d8 t8 h8 k8 u8 v8 F8 N8 e8 n8; (try k_sweep); (try dsimp only)))); k_steps))
          (refine ⟨_, _, _, rfl, X.keeps (Fr.keep (by k_asm)), News.get (by k_asm) (.tail _ (.head _)), ?_⟩; (try k_unfold); (try dsimp only); refine leave_made B (by k_asm) (by k_asm) (by assumption) fun hh1 fl1 sm1 => ?_; refine rai _ _ _ _ _ ?_ fl1 sm1)
          exact ⟨rfl, _, rfl⟩
        · rcases run_cases h8 hr with ⟨rfl, h1, h2⟩ | ⟨rfl, h1, h2, h3⟩ | ⟨hk, h1, h2, h3⟩
          · (k_steps; repeat' ((first | (unfold CHold; (k_dflt (refine' Tell.useW (wordNumbers _) ?B ?F ?N ?XB ?TB ?hk ?hd ?hu ?hp ?_ ?_); (case B => k_asm); (case F => k_asm); (case N => k_asm); (case XB => k_asm); (case TB => k_asm); (case hk => exact rfl); (case hd => first | exact roomD (by assumption) (by decide) | ((try dsimp only [ctx] at *); omega)); (case hu => first | exact roomC (by assumption) (by decide) | exact roomU (by assumption) (by decide) | ((try dsimp only [ctx] at *); omega)); (case hp => first | trivial | assumption);  (try any_goals (exact fun _ _ _ _ _ z => z.elim)); k_whole; intro v9 h9 tk9 u9 F9 N9 r9; (obtain ⟨d9, o9, k9, r9, n9, lo9, g9, i9, nk9, ln9⟩ := r9); subst r9; (obtain ⟨N9b, q9⟩ := u9 _ _ n9 g9); (try simp only [AllNe, and_true] at q9); clear N9;  (try k_sweep); (try dsimp only))) | (unfold CHold; (k_dflt (refine' mkBE _ _ _ _ _ _ _ _ _ _ _ _ _ _ _ _ _ _ _ _ _ _ _ _ _ ?B ?F ?X ?N ?T ?hk ?hd ?hu ?_; (case B => k_asm); (case F => k_asm); (case X => k_asm); (case N => k_asm); (case T => k_asm); (case hk => exact rfl); (case hd => first | exact roomD (by assumption) (by decide) | ((try dsimp only [ctx] at *); omega)); (case hu => first | exact roomC (by assumption) (by decide) | exact roomU (by assumption) (by decide) | ((try dsimp only [ctx] at *); omega)); k_whole); intro x8 d8 t8 h8 k8 u8 v8 F8 N8 e8 n8; (try k_sweep); (try dsimp only)))); k_steps))
            (k_dflt (refine' TellX.useErrN (tokWord _ _ _ _ _ _ _ _ ?q1 ?q2 ?q3) ?B ?F ?N ?hx ?hm ?XB ?TB ?hk ?hd ?hu ?hp ?_); (case B => k_asm); (case F => k_asm); (case N => k_asm); (case XB => k_asm); (case TB => k_asm); (case hp => first | exact rd_of0 (by k_asm) (by k_asm) (by k_mem) (by k_mem) (by assumption) | exact rd_of (by k_asm) (by k_asm) (by k_mem) (by k_mem) (by assumption) | (exact ⟨rd_of (by k_asm) (by k_asm) (by k_mem) (by k_mem) (by assumption), words_of (by k_asm) (by k_mem) (by assumption) (Nat.ne_of_lt (by assumption)) (Nat.ne_of_lt (by assumption))⟩)); (case hx => k_mem); (case hm => k_mem); (case hk => exact rfl); (case hd => first | exact roomD (by assumption) (by decide) | ((try dsimp only [ctx]); omega)); (case hu => first | exact roomC (by assumption) (by decide) | exact roomU (by assumption) (by decide) | ((try dsimp only [ctx]); omega)); (case q1 => omega); (case q2 => omega); (case q3 => assumption); intro e7 h7 k7 p7 t7 x7 F7 fl7 sm7; (try k_unfold); (try dsimp only); refine leave_fly (by k_asm) F7 fl7 sm7 ?_; refine holdR ?_)
            unfold RHold
            intro hh fl sm
            refine rai _ _ _ _ _ ?_ fl sm
            rw [h2 _ x7]
            exact ⟨rfl, _, rfl⟩
          · (k_steps; repeat' ((first | (unfold CHold; (k_dflt (refine' Tell.useW (wordNumbers _) ?B ?F ?N ?XB ?TB ?hk ?hd ?hu ?hp ?_ ?_); (case B => k_asm); (case F => k_asm); (case N => k_asm); (case XB => k_asm); (case TB => k_asm); (case hk => exact rfl); (case hd => first | exact roomD (by assumption) (by decide) | ((try dsimp only [ctx] at *); omega)); (case hu => first | exact roomC (by assumption) (by decide) | exact roomU (by assumption) (by decide) | ((try dsimp only [ctx] at *); omega)); (case hp => first | trivial | assumption);  (try any_goals (exact fun _ _ _ _ _ z => z.elim)); k_whole; intro v9 h9 tk9 u9 F9 N9 r9; (obtain ⟨d9, o9, k9, r9, n9, lo9, g9, i9, nk9, ln9⟩ := r9); subst r9; (obtain ⟨N9b, q9⟩ := u9 _ _ n9 g9); (try simp only [AllNe, and_true] at q9); clear N9;  (try k_sweep); (try dsimp only))) | (unfold CHold; (k_dflt (refine' mkBE _ _ _ _ _ _ _ _ _ _ _ _ _ _ _ _ _ _ _ _ _ _ _ _ _ ?B ?F ?X ?N ?T ?hk ?hd ?hu ?_; (case B => k_asm); (case F => k_asm); (case X => k_asm); (case N => k_asm); (case T => k_asm); (case hk => exact rfl); (case hd => first | exact roomD (by assumption) (by decide) | ((try dsimp only [ctx] at *); omega)); (case hu => first | exact roomC (by assumption) (by decide) | exact roomU (by assumption) (by decide) | ((try dsimp only [ctx] at *); omega)); k_whole); intro x8 d8 t8 h8 k8 u8 v8 F8 N8 e8 n8; (try k_sweep); (try dsimp only)))); k_steps))
            (k_dflt (refine' TellX.useN (tokSign _ _ _ _ _ _ _ _ ?q1 ?q2 ?q3) ?B ?F ?N ?hx ?hm ?XB ?TB ?hk ?hd ?hu ?hp ?U ?hno ?_ ?_); (case B => k_asm); (case F => k_asm); (case N => k_asm); (case XB => k_asm); (case TB => k_asm); (case hp => first | exact rd_of0 (by k_asm) (by k_asm) (by k_mem) (by k_mem) (by assumption) | exact rd_of (by k_asm) (by k_asm) (by k_mem) (by k_mem) (by assumption)); (case hx => k_mem); (case hm => k_mem); (case hk => exact rfl); (case hd => first | exact roomD (by assumption) (by decide) | ((try dsimp only [ctx]); omega)); (case hu => first | exact roomC (by assumption) (by decide) | exact roomU (by assumption) (by decide) | ((try dsimp only [ctx]); omega)); (case U => intro _ _ _; k_upd); (case hno => exact fun _ _ _ q => by cases q); (case q1 => omega); (case q2 => omega); (case q3 => assumption); (rotate_left 1; intro e7 h7 k7 p7 t7 x7 F7 fl7 sm7; (try k_unfold); (try dsimp only); refine leave_fly (by k_asm) F7 fl7 sm7 ?_; refine holdR ?_; rotate_right 1); k_whole; intro h9 tk9 tp9 t9 ta9 tb9 tc9 q9 F9 N9b qq9; (dsimp only [AllNe] at qq9); (have nA9 := qq9.1); (try have nB9 := qq9.2.1); (try have nC9 := qq9.2.2.1); (try have nD9 := qq9.2.2.2.1); (try have nE9 := qq9.2.2.2.2.1); (try have nF9 := qq9.2.2.2.2.2.1); (try have nG9 := qq9.2.2.2.2.2.2.1); clear qq9; (try k_sweep); (try dsimp only))
            · have hN := h3 q9
              (k_steps; repeat' ((first | (unfold CHold; (k_dflt (refine' Tell.useW (wordNumbers _) ?B ?F ?N ?XB ?TB ?hk ?hd ?hu ?hp ?_ ?_); (case B => k_asm); (case F => k_asm); (case N => k_asm); (case XB => k_asm); (case TB => k_asm); (case hk => exact rfl); (case hd => first | exact roomD (by assumption) (by decide) | ((try dsimp only [ctx] at *); omega)); (case hu => first | exact roomC (by assumption) (by decide) | exact roomU (by assumption) (by decide) | ((try dsimp only [ctx] at *); omega)); (case hp => first | trivial | assumption);  (try any_goals (exact fun _ _ _ _ _ z => z.elim)); k_whole; intro v9 h9 tk9 u9 F9 N9 r9; (obtain ⟨d9, o9, k9, r9, n9, lo9, g9, i9, nk9, ln9⟩ := r9); subst r9; (obtain ⟨N9b, q9⟩ := u9 _ _ n9 g9); (try simp only [AllNe, and_true] at q9); clear N9;  (try k_sweep); (try dsimp only))) | (unfold CHold; (k_dflt (refine' mkBE _ _ _ _ _ _ _ _ _ _ _ _ _ _ _ _ _ _ _ _ _ _ _ _ _ ?B ?F ?X ?N ?T ?hk ?hd ?hu ?_; (case B => k_asm); (case F => k_asm); (case X => k_asm); (case N => k_asm); (case T => k_asm); (case hk => exact rfl); (case hd => first | exact roomD (by assumption) (by decide) | ((try dsimp only [ctx] at *); omega)); (case hu => first | exact roomC (by assumption) (by decide) | exact roomU (by assumption) (by decide) | ((try dsimp only [ctx] at *); omega)); k_whole); intro x8 d8 t8 h8 k8 u8 v8 F8 N8 e8 n8; (try k_sweep); (try dsimp only)))); k_steps))
              (k_dflt (refine' TellX.useI (take _ _ _ _ _ _ ?q1 ?q2) ?B ?F ?N ?hx ?hm ?XB ?TB ?hk ?hd ?hu ?hp ?U ?_ ?_); (case B => k_asm); (case F => k_asm); (case N => k_asm); (case XB => k_asm); (case TB => k_asm); (case hp => first | exact rd_of0 (by k_asm) (by k_asm) (by k_mem) (by k_mem) (by assumption) | exact rd_of (by k_asm) (by k_asm) (by k_mem) (by k_mem) (by assumption)); (case hx => k_mem); (case hm => k_mem); (case hk => exact rfl); (case hd => first | exact roomD (by assumption) (by decide) | ((try dsimp only [ctx]); omega)); (case hu => first | exact roomC (by assumption) (by decide) | exact roomU (by assumption) (by decide) | ((try dsimp only [ctx]); omega)); (case U => intro _ _ _; k_upd); (case q1 => omega); (case q2 => omega); (rotate_left 1; intro e7 h7 k7 t7 x7 F7 fl7 sm7; (try k_unfold); (try dsimp only); refine leave_fly (by k_asm) F7 fl7 sm7 ?_; refine holdR ?_; rotate_right 1); k_whole; intro h9 tk9 z9 t9 ta9 tb9 tc9 q9 F9 N9b; (try k_sweep); (try dsimp only))
              · (k_steps; repeat' ((first | (unfold CHold; (k_dflt (refine' Tell.useW (wordNumbers _) ?B ?F ?N ?XB ?TB ?hk ?hd ?hu ?hp ?_ ?_); (case B => k_asm); (case F => k_asm); (case N => k_asm); (case XB => k_asm); (case TB => k_asm); (case hk => exact rfl); (case hd => first | exact roomD (by assumption) (by decide) | ((try dsimp only [ctx] at *); omega)); (case hu => first | exact roomC (by assumption) (by decide) | exact roomU (by assumption) (by decide) | ((try dsimp only [ctx] at *); omega)); (case hp => first | trivial | assumption);  (try any_goals (exact fun _ _ _ _ _ z => z.elim)); k_whole; intro v9 h9 tk9 u9 F9 N9 r9; (obtain ⟨d9, o9, k9, r9, n9, lo9, g9, i9, nk9, ln9⟩ := r9); subst r9; (obtain ⟨N9b, q9⟩ := u9 _ _ n9 g9); (try simp only [AllNe, and_true] at q9); clear N9;  (try k_sweep); (try dsimp only))) | (unfold CHold; (k_dflt (refine' mkBE _ _ _ _ _ _ _ _ _ _ _ _ _ _ _ _ _ _ _ _ _ _ _ _ _ ?B ?F ?X ?N ?T ?hk ?hd ?hu ?_; (case B => k_asm); (case F => k_asm); (case X => k_asm); (case N => k_asm); (case T => k_asm); (case hk => exact rfl); (case hd => first | exact roomD (by assumption) (by decide) | ((try dsimp only [ctx] at *); omega)); (case hu => first | exact roomC (by assumption) (by decide) | exact roomU (by assumption) (by decide) | ((try dsimp only [ctx] at *); omega)); k_whole); intro x8 d8 t8 h8 k8 u8 v8 F8 N8 e8 n8; (try k_sweep); (try dsimp only)))); k_steps))
                unfold TEnd
                refine ⟨(n, _, z9), Nat.lt_succ_self _, (List.getElem?_eq_some_iff.mp q9).1, hN.2 _ q9, RunJ.mk _ _ _ _ _ _ _ _ _ _ _ _ _ _ _ (Fr_eq (by k_asm) (kind_map _ _ _ _)) (news4 (by k_asm) (by k_mem) (by k_mem) (by k_mem) (by k_mem)) o1 o2 o3 ?_ hout⟩
                exact Nat.le_trans (Nat.le_of_eq (push_add _ _ _)) hz
              · unfold RHold
                intro hh fl sm
                refine rai _ _ _ _ _ ?_ fl sm
                rw [hN.1 x7]
                exact ⟨rfl, _, rfl⟩
            · unfold RHold
              intro hh fl sm
              refine rai _ _ _ _ _ ?_ fl sm
              rw [h2 _ x7]
              exact ⟨rfl, _, rfl⟩
          · (k_steps; repeat' ((first | (unfold CHold; (k_dflt (refine' Tell.useW (wordNumbers _) ?B ?F ?N ?XB ?TB ?hk ?hd ?hu ?hp ?_ ?_); (case B => k_asm); (case F => k_asm); (case N => k_asm); (case XB => k_asm); (case TB => k_asm); (case hk => exact rfl); (case hd => first | exact roomD (by assumption) (by decide) | ((try dsimp only [ctx] at *); omega)); (case hu => first | exact roomC (by assumption) (by decide) | exact roomU (by assumption) (by decide) | ((try dsimp only [ctx] at *); omega)); (case hp => first | trivial | assumption);  (try any_goals (exact fun _ _ _ _ _ z => z.elim)); k_whole; intro v9 h9 tk9 u9 F9 N9 r9; (obtain ⟨d9, o9, k9, r9, n9, lo9, g9, i9, nk9, ln9⟩ := r9); subst r9; (obtain ⟨N9b, q9⟩ := u9 _ _ n9 g9); (try simp only [AllNe, and_true] at q9); clear N9;  (try k_sweep); (try dsimp only))) | (unfold CHold; (k_dflt (refine' mkBE _ _ _ _ _ _ _ _ _ _ _ _ _ _ _ _ _ _ _ _ _ _ _ _ _ ?B ?F ?X ?N ?T ?hk ?hd ?hu ?_; (case B => k_asm); (case F => k_asm); (case X => k_asm); (case N => k_asm); (case T => k_asm); (case hk => exact rfl); (case hd => first | exact roomD (by assumption) (by decide) | ((try dsimp only [ctx] at *); omega)); (case hu => first | exact roomC (by assumption) (by decide) | exact roomU (by assumption) (by decide) | ((try dsimp only [ctx] at *); omega)); k_whole); intro x8 d8 t8 h8 k8 u8 v8 F8 N8 e8 n8; (try k_sweep); (try dsimp only)))); k_steps))
            refine WhlIf.yes (by simp; omega) ?_
            (k_steps; repeat' ((first | (unfold CHold; (k_dflt (refine' Tell.useW (wordNumbers _) ?B ?F ?N ?XB ?TB ?hk ?hd ?hu ?hp ?_ ?_); (case B => k_asm); (case F => k_asm); (case N => k_asm); (case XB => k_asm); (case TB => k_asm); (case hk => exact rfl); (case hd => first | exact roomD (by assumption) (by decide) | ((try dsimp only [ctx] at *); omega)); (case hu => first | exact roomC (by assumption) (by decide) | exact roomU (by assumption) (by decide) | ((try dsimp only [ctx] at *); omega)); (case hp => first | trivial | assumption);  (try any_goals (exact fun _ _ _ _ _ z => z.elim)); k_whole; intro v9 h9 tk9 u9 F9 N9 r9; (obtain ⟨d9, o9, k9, r9, n9, lo9, g9, i9, nk9, ln9⟩ := r9); subst r9; (obtain ⟨N9b, q9⟩ := u9 _ _ n9 g9); (try simp only [AllNe, and_true] at q9); clear N9;  (try k_sweep); (try dsimp only))) | (unfold CHold; (k_dflt (refine' mkBE _ _ _ _ _ _ _ _ _ _ _ _ _ _ _ _ _ _ _ _ _ _ _ _ _ ?B ?F ?X ?N ?T ?hk ?hd ?hu ?_; (case B => k_asm); (case F => k_asm); (case X => k_asm); (case N => k_asm); (case T => k_asm); (case hk => exact rfl); (case hd => first | exact roomD (by assumption) (by decide) | ((try dsimp only [ctx] at *); omega)); (case hu => first | exact roomC (by assumption) (by decide) | exact roomU (by assumption) (by decide) | ((try dsimp only [ctx] at *); omega)); k_whole); intro x8 d8 t8 h8 k8 u8 v8 F8 N8 e8 n8; (try k_sweep); (try dsimp only)))); k_steps))
            unfold KHold
            refine kinds_item X (by k_asm) hk fun ku kt' hku => ?_
            (k_steps; repeat' ((first | (unfold CHold; (k_dflt (refine' Tell.useW (wordNumbers _) ?B ?F ?N ?XB ?TB ?hk ?hd ?hu ?hp ?_ ?_); (case B => k_asm); (case F => k_asm); (case N => k_asm); (case XB => k_asm); (case TB => k_asm); (case hk => exact rfl); (case hd => first | exact roomD (by assumption) (by decide) | ((try dsimp only [ctx] at *); omega)); (case hu => first | exact roomC (by assumption) (by decide) | exact roomU (by assumption) (by decide) | ((try dsimp only [ctx] at *); omega)); (case hp => first | trivial | assumption);  (try any_goals (exact fun _ _ _ _ _ z => z.elim)); k_whole; intro v9 h9 tk9 u9 F9 N9 r9; (obtain ⟨d9, o9, k9, r9, n9, lo9, g9, i9, nk9, ln9⟩ := r9); subst r9; (obtain ⟨N9b, q9⟩ := u9 _ _ n9 g9); (try simp only [AllNe, and_true] at q9); clear N9;  (try k_sweep); (try dsimp only))) | (unfold CHold; (k_dflt (refine' mkBE _ _ _ _ _ _ _ _ _ _ _ _ _ _ _ _ _ _ _ _ _ _ _ _ _ ?B ?F ?X ?N ?T ?hk ?hd ?hu ?_; (case B => k_asm); (case F => k_asm); (case X => k_asm); (case N => k_asm); (case T => k_asm); (case hk => exact rfl); (case hd => first | exact roomD (by assumption) (by decide) | ((try dsimp only [ctx] at *); omega)); (case hu => first | exact roomC (by assumption) (by decide) | exact roomU (by assumption) (by decide) | ((try dsimp only [ctx] at *); omega)); k_whole); intro x8 d8 t8 h8 k8 u8 v8 F8 N8 e8 n8; (try k_sweep); (try dsimp only)))); k_steps))
            (k_dflt (refine' TellX.useK (tokText _ _ _ _ _ _ _ _ _ ?q1 ?q2 ?q3 ?q4 ?q5) ?B ?F ?N ?hx ?hm ?XB ?TB ?hk ?hd ?hu ?hp ?U ?hno ?_ ?_); (case B => k_asm); (case F => k_asm); (case N => k_asm); (case XB => k_asm); (case TB => k_asm); (case hp => first | exact rd_of0 (by k_asm) (by k_asm) (by k_mem) (by k_mem) (by assumption) | exact rd_of (by k_asm) (by k_asm) (by k_mem) (by k_mem) (by assumption)); (case hx => k_mem); (case hm => k_mem); (case hk => exact rfl); (case hd => first | exact roomD (by assumption) (by decide) | ((try dsimp only [ctx]); omega)); (case hu => first | exact roomC (by assumption) (by decide) | exact roomU (by assumption) (by decide) | ((try dsimp only [ctx]); omega)); (case U => intro _ _ _ _; k_upd); (case hno => exact fun _ _ _ _ q => by cases q); (case q1 => omega); (case q2 => omega); (case q3 => assumption); (case q4 => assumption); (case q5 => assumption); (rotate_left 1; intro e7 h7 k7 p7 t7 x7 F7 fl7 sm7; (try k_unfold); (try dsimp only); refine leave_fly (by k_asm) F7 fl7 sm7 ?_; refine holdR ?_; rotate_right 1); k_whole; intro h9 tk9 a9 u9 tp9 t9 ta9 tb9 tc9 q9 F9 N9b qq9; (dsimp only [AllNe] at qq9); (have nA9 := qq9.1); (try have nB9 := qq9.2.1); (try have nC9 := qq9.2.2.1); (try have nD9 := qq9.2.2.2.1); (try have nE9 := qq9.2.2.2.2.1); (try have nF9 := qq9.2.2.2.2.2.1); (try have nG9 := qq9.2.2.2.2.2.2.1); clear qq9; (try k_sweep); (try dsimp only))
            · have hN := h3 _ _ q9
              have hle := text_le h1 q9
              (k_steps; repeat' ((first | (unfold CHold; (k_dflt (refine' Tell.useW (wordNumbers _) ?B ?F ?N ?XB ?TB ?hk ?hd ?hu ?hp ?_ ?_); (case B => k_asm); (case F => k_asm); (case N => k_asm); (case XB => k_asm); (case TB => k_asm); (case hk => exact rfl); (case hd => first | exact roomD (by assumption) (by decide) | ((try dsimp only [ctx] at *); omega)); (case hu => first | exact roomC (by assumption) (by decide) | exact roomU (by assumption) (by decide) | ((try dsimp only [ctx] at *); omega)); (case hp => first | trivial | assumption);  (try any_goals (exact fun _ _ _ _ _ z => z.elim)); k_whole; intro v9 h9 tk9 u9 F9 N9 r9; (obtain ⟨d9, o9, k9, r9, n9, lo9, g9, i9, nk9, ln9⟩ := r9); subst r9; (obtain ⟨N9b, q9⟩ := u9 _ _ n9 g9); (try simp only [AllNe, and_true] at q9); clear N9;  (try k_sweep); (try dsimp only))) | (unfold CHold; (k_dflt (refine' mkBE _ _ _ _ _ _ _ _ _ _ _ _ _ _ _ _ _ _ _ _ _ _ _ _ _ ?B ?F ?X ?N ?T ?hk ?hd ?hu ?_; (case B => k_asm); (case F => k_asm); (case X => k_asm); (case N => k_asm); (case T => k_asm); (case hk => exact rfl); (case hd => first | exact roomD (by assumption) (by decide) | ((try dsimp only [ctx] at *); omega)); (case hu => first | exact roomC (by assumption) (by decide) | exact roomU (by assumption) (by decide) | ((try dsimp only [ctx] at *); omega)); k_whole); intro x8 d8 t8 h8 k8 u8 v8 F8 N8 e8 n8; (try k_sweep); (try dsimp only)))); k_steps))
              (k_dflt (refine' TellX.useI (take _ _ _ _ _ _ ?q1 ?q2) ?B ?F ?N ?hx ?hm ?XB ?TB ?hk ?hd ?hu ?hp ?U ?_ ?_); (case B => k_asm); (case F => k_asm); (case N => k_asm); (case XB => k_asm); (case TB => k_asm); (case hp => first | exact rd_of0 (by k_asm) (by k_asm) (by k_mem) (by k_mem) (by assumption) | exact rd_of (by k_asm) (by k_asm) (by k_mem) (by k_mem) (by assumption)); (case hx => k_mem); (case hm => k_mem); (case hk => exact rfl); (case hd => first | exact roomD (by assumption) (by decide) | ((try dsimp only [ctx]); omega)); (case hu => first | exact roomC (by assumption) (by decide) | exact roomU (by assumption) (by decide) | ((try dsimp only [ctx]); omega)); (case U => intro _ _ _; k_upd); (case q1 => omega); (case q2 => omega); (rotate_left 1; intro e7 h7 k7 t7 x7 F7 fl7 sm7; (try k_unfold); (try dsimp only); refine leave_fly (by k_asm) F7 fl7 sm7 ?_; refine holdR ?_; rotate_right 1); k_whole; intro h9 tk9 z9 t9 ta9 tb9 tc9 q9 F9 N9b; (try k_sweep); (try dsimp only))
              · (k_steps; repeat' ((first | (unfold CHold; (k_dflt (refine' Tell.useW (wordNumbers _) ?B ?F ?N ?XB ?TB ?hk ?hd ?hu ?hp ?_ ?_); (case B => k_asm); (case F => k_asm); (case N => k_asm); (case XB => k_asm); (case TB => k_asm); (case hk => exact rfl); (case hd => first | exact roomD (by assumption) (by decide) | ((try dsimp only [ctx] at *); omega)); (case hu => first | exact roomC (by assumption) (by decide) | exact roomU (by assumption) (by decide) | ((try dsimp only [ctx] at *); omega)); (case hp => first | trivial | assumption);  (try any_goals (exact fun _ _ _ _ _ z => z.elim)); k_whole; intro v9 h9 tk9 u9 F9 N9 r9; (obtain ⟨d9, o9, k9, r9, n9, lo9, g9, i9, nk9, ln9⟩ := r9); subst r9; (obtain ⟨N9b, q9⟩ := u9 _ _ n9 g9); (try simp only [AllNe, and_true] at q9); clear N9;  (try k_sweep); (try dsimp only))) | (unfold CHold; (k_dflt (refine' mkBE _ _ _ _ _ _ _ _ _ _ _ _ _ _ _ _ _ _ _ _ _ _ _ _ _ ?B ?F ?X ?N ?T ?hk ?hd ?hu ?_; (case B => k_asm); (case F => k_asm); (case X => k_asm); (case N => k_asm); (case T => k_asm); (case hk => exact rfl); (case hd => first | exact roomD (by assumption) (by decide) | ((try dsimp only [ctx] at *); omega)); (case hu => first | exact roomC (by assumption) (by decide) | exact roomU (by assumption) (by decide) | ((try dsimp only [ctx] at *); omega)); k_whole); intro x8 d8 t8 h8 k8 u8 v8 F8 N8 e8 n8; (try k_sweep); (try dsimp only)))); k_steps))
                unfold TEnd
                refine ⟨(n, _, z9), Nat.lt_succ_self _, (List.getElem?_eq_some_iff.mp q9).1, hN.2 _ q9, RunJ.mk _ _ _ _ _ _ _ _ _ _ _ _ _ _ _ (Fr_eq (by k_asm) (kind_map _ _ _ _)) (news4 (by k_asm) (by k_mem) (by k_mem) (by k_mem) (by k_mem)) o1 o2 o3 ?_ hout⟩
                exact Nat.le_trans (Nat.le_of_eq (push_add _ _ _)) hz
              · unfold RHold
                intro hh fl sm
                refine rai _ _ _ _ _ ?_ fl sm
                rw [hN.1 x7]
                exact ⟨rfl, _, rfl⟩
            · unfold RHold
              intro hh fl sm
              refine rai _ _ _ _ _ ?_ fl sm
              rw [h2 _ x7]
              exact ⟨rfl, _, rfl⟩
    case init =>
      refine ⟨e1, H', RunJ.mk _ _ _ _ _ _ _ _ _ _ _ _ _ _ _ F0 (news4 N0 (by k_mem) (by k_mem) (by k_mem) (by k_mem)) ?_ ?_ ?_ ?_ ?_⟩
      all_goals (try dsimp only)
      · exact o4.2.2.1
      · exact o5.1
      · omega
      · exact Nat.le_refl _
      · omega
  · unfold RHold
    intro hh fl sm
    refine rai _ _ _ _ _ ?_ fl sm
    have H' := H
    unfold runs at H'
    rw [x7] at H'
    cases H'
    exact ⟨rfl, _, rfl⟩
end
end Mine
/-! T37 -/
namespace Mine
theorem start_T37 : True := by
  w_top off
  trivial
local macro_rules | `(tactic| k_room) => `(tactic| first | k_extra "room" | ((try dsimp only [Around.deeper, Around.mark, Around.in1]); omega))
theorem right_nums : numS [2, 1, 65, 5, 1, 3, 1, 55, 0] 4 1 0 1 = .ok (1, 2) ∧ numS [2, 1, 65, 5, 1, 3, 1, 55, 0] 4 6 0 1 = .ok (1, 7) := ⟨rfl, rfl⟩
theorem right_texts : textS [2, 1, 65, 5, 1, 3, 1, 55, 0] 1 = .ok ("A", 3) ∧ textS [2, 1, 65, 5, 1, 3, 1, 55, 0] 6 = .ok ("7", 8) := by
  constructor
  · rfl
  · rfl
def RightRet (g h' : Heap) (v : Value) : Prop := ∃ fl p1 p2 p3 c k1 k2 k3 t1 t2 t3, v = .ref fl ∧ g.get? fl = none ∧ g.get? p1 = none ∧ g.get? p2 = none ∧ g.get? p3 = none ∧ h'.get? fl = some (W.listOf #[.ref p1, .ref p2, .ref p3] c)
  ∧ h'.get? p1 = some (tup2 "name" k1 "A" t1) ∧ h'.get? p2 = some (tup2 "sign" k2 "-" t2) ∧ h'.get? p3 = some (tup2 "number" k3 "7" t3)
theorem rightRet_of {g h : Heap} {L fl p1 p2 p3 : Addr} {all : List (Addr × Obj)} {c : Nat} {k1 k2 k3 t1 t2 t3 : Tok} (N : News g L h all) (hf : (fl, W.listOf #[.ref p1, .ref p2, .ref p3] c) ∈ all) (h1 : (p1, tup2 "name" k1 "A" t1) ∈ all) (h2 : (p2, tup2 "sign" k2 "-" t2) ∈ all) (h3 : (p3, tup2 "number" k3 "7" t3) ∈ all) : RightRet g h (.ref fl) :=
  ⟨fl, p1, p2, p3, c, k1, k2, k3, t1, t2, t3, rfl, (N _ hf).2.2, (N _ h1).2.2, (N _ h2).2.2, (N _ h3).2.2, (N _ hf).1, (N _ h1).1, (N _ h2).1, (N _ h3).1⟩
section







theorem uncrRight (w : World) (ol : Addr) (ls : List Int) (hls : ls = [2, 1, 65, 5, 1, 3, 1, 55, 0]) : Tell w 70 263 [.ref ol] (fun g => SL g ol ls) RightRet (fun _ _ => False) := by
  have hlen : ls.length = 9 := by rw [hls]; rfl
  have n1 : ∀ m a1, numS ls 4 1 0 1 = .ok (m, a1) → m = 1 ∨ m = 3 := fun m a1 e => by rw [hls] at e; have z := right_nums.1.symm.trans e; cases z; exact .inl rfl
  have n6 : ∀ m a1, numS ls 4 6 0 1 = .ok (m, a1) → m = 1 ∨ m = 3 := fun m a1 e => by rw [hls] at e; have z := right_nums.2.symm.trans e; cases z; exact .inl rfl
  have x1 : textS ls 1 = .ok ("A", 3) := by rw [hls]; exact right_texts.1
  have x6 : textS ls 6 = .ok ("7", 8) := by rw [hls]; exact right_texts.2
  have f0 : ls[0]? = some 2 := by rw [hls]; rfl
  have f3 : ls[3]? = some 5 := by rw [hls]; rfl
  have f4 : ls[4]? = some 1 := by rw [hls]; rfl
  have f5 : ls[5]? = some 3 := by rw [hls]; rfl
  have f8 : ls[8]? = some 0 := by rw [hls]; rfl
  have hb : ∀ z ∈ ls, 0 ≤ z ∧ z < 256 := by rw [hls]; decide
  have h4 : ∀ z, ls[4]? = some z → z = 1 ∨ 20 ≤ z := fun z e => by rw [f4] at e; cases e; exact .inl rfl
  clear hls
  unfold Tell
  intro mean mg mb dp un gd l base g gs dr tk os Q E B XB TB hd' hu hP ret rai
  revert XB; k_fill; intro XB
  have cLi := cLine_is
  have reci : recursionLimit = 1000 := rfl
  refine wpAny_call ?_
  k_dflt (refine' enterP (l0 := [("octets", _)]) ?k1 ?k2 ?k3 ?k6 ?k7 ?k8 ?k9 ?kl ?kB ?_ ?c2 ?c3 ?c4 ?c5; (case k1 => exact B); (case k2 => exact XB); (case k3 => exact TB); (case k6 => k_is); (case k7 => k_is); (case k8 => exact roomZ hd'); (case k9 => exact BindsTo.of_eq rfl); (case kl => exact rfl); (case c5 => decide); (case kB => exact locs rfl); (case c2 => exact rfl); (case c3 => exact rfl); (case c4 => exact rfl); k_whole)
  intro L' h' tk0 F' N' X T
  dsimp only
  k_fold
  have hl : SL g ol ls := hP
  (k_with_none; (k_with "ne" => (first | exact ne_gt (by with_reducible assumption) | exact ne_lt (by with_reducible assumption) | with_reducible assumption | exact Ne.symm (by with_reducible assumption) | exact ne_gt (And.left (by with_reducible assumption)) | exact ne_gt (And.left (And.right (by with_reducible assumption))) | exact ne_gt (And.right (by with_reducible assumption)) | exact ne_gt (And.right (And.right (by with_reducible assumption))) | exact ne_lt (And.left (by with_reducible assumption)) | exact ne_lt (And.left (And.right (by with_reducible assumption))) | exact ne_lt (And.right (by with_reducible assumption)) | exact ne_lt (And.right (And.right (by with_reducible assumption))))); (k_with "room" => (first | exact roomD (by assumption) (by decide) | exact roomD (by assumption) (Nat.le_of_ble_eq_true rfl) | exact roomC (by assumption) (by decide))); (k_with "call ref" => refine hold34 ?_); (k_with "exec Raise some none" => refine Raise_be rfl ?_); (k_with "call ref" => refine hold207 ?_); (k_with "getAttr ref" => ((with_reducible show wpAny _ _ (getAttr _ (Str.ofString "get") _) _ _ _); (k_dflt (refine' attr_dgetN ?FKw ?NKw ?pKw ?dKw ?_; (case FKw => k_asm); (case NKw => k_asm); (case pKw => k_mem); (case dKw => assumption); k_whole)); intro x' h' F' N' l1; (try k_lt l1); (try k_sweep))); (k_with "call builtin:sorted" => ((k_dflt (refine' sortedKeys ?hhKw ?FKw ?NKw ?pKw ?qKw ?dKw ?loKw ?nkKw ?lnKw ?_; (case hhKw => exact rfl); (case FKw => k_asm); (case NKw => k_asm); (case pKw => k_mem); (case qKw => k_mem); (case dKw => assumption); (case loKw => assumption); (case nkKw => assumption); (case lnKw => omega); k_whole)); intro D' h' tk' out' c' F' N' l1 z'; (try k_lt l1); (try k_sweep))); (k_with "call ref" => refine hold228 ?_); (k_with "call ref" => refine hold249 ?_); (k_with "exec While" => refine holdW ?_); k_steps; repeat' ((first | (unfold CHold; (k_dflt (refine' Tell.useW (wordNumbers _) ?B ?F ?N ?XB ?TB ?hk ?hd ?hu ?hp ?_ ?_); (case B => k_asm); (case F => k_asm); (case N => k_asm); (case XB => k_asm); (case TB => k_asm); (case hk => exact rfl); (case hd => first | exact roomD (by assumption) (by decide) | ((try dsimp only [ctx] at *); omega)); (case hu => first | exact roomC (by assumption) (by decide) | exact roomU (by assumption) (by decide) | ((try dsimp only [ctx] at *); omega)); (case hp => first | trivial | assumption);  (try any_goals (exact fun _ _ _ _ _ z => z.elim)); k_whole; intro v9 h9 tk9 u9 F9 N9 r9; (obtain ⟨d9, o9, k9, r9, n9, lo9, g9, i9, nk9, ln9⟩ := r9); subst r9; (obtain ⟨N9b, q9⟩ := u9 _ _ n9 g9); (try simp only [AllNe, and_true] at q9); clear N9;  (try k_sweep); (try dsimp only))) | (unfold CHold; (k_dflt (refine' mkBE _ _ _ _ _ _ _ _ _ _ _ _ _ _ _ _ _ _ _ _ _ _ _ _ _ ?B ?F ?X ?N ?T ?hk ?hd ?hu ?_; (case B => k_asm); (case F => k_asm); (case X => k_asm); (case N => k_asm); (case T => k_asm); (case hk => exact rfl); (case hd => first | exact roomD (by assumption) (by decide) | ((try dsimp only [ctx] at *); omega)); (case hu => first | exact roomC (by assumption) (by decide) | exact roomU (by assumption) (by decide) | ((try dsimp only [ctx] at *); omega)); k_whole); intro x8 d8 t8 h8 k8 u8 v8 F8 N8 e8 n8; (try k_sweep); (try dsimp only)))); k_steps))
  (k_dflt (refine' TellX.useI (take _ _ _ _ _ _ ?q1 ?q2) ?B ?F ?N ?hx ?hm ?XB ?TB ?hk ?hd ?hu ?hp ?U ?_ ?_); (case B => k_asm); (case F => k_asm); (case N => k_asm); (case XB => k_asm); (case TB => k_asm); (case hp => first | exact rd_of0 (by k_asm) (by k_asm) (by k_mem) (by k_mem) (by assumption) | exact rd_of (by k_asm) (by k_asm) (by k_mem) (by k_mem) (by assumption)); (case hx => k_mem); (case hm => k_mem); (case hk => exact rfl); (case hd => first | exact roomD (by assumption) (by decide) | ((try dsimp only [ctx]); omega)); (case hu => first | exact roomC (by assumption) (by decide) | exact roomU (by assumption) (by decide) | ((try dsimp only [ctx]); omega)); (case U => intro _ _ _; k_upd); (case q1 => omega); (case q2 => omega); (rotate_left 1; intro e7 h7 k7 t7 x7 F7 fl7 sm7; (try k_unfold); (try dsimp only); refine leave_fly (by k_asm) F7 fl7 sm7 ?_; refine holdR ?_; rotate_right 1); k_whole; intro h9 tk9 z9 t9 ta9 tb9 tc9 q9 F9 N9b; (try k_sweep); (try dsimp only))
  rotate_left 1
  · cases f0.symm.trans x7
  (k_steps; repeat' ((first | (unfold CHold; (k_dflt (refine' Tell.useW (wordNumbers _) ?B ?F ?N ?XB ?TB ?hk ?hd ?hu ?hp ?_ ?_); (case B => k_asm); (case F => k_asm); (case N => k_asm); (case XB => k_asm); (case TB => k_asm); (case hk => exact rfl); (case hd => first | exact roomD (by assumption) (by decide) | ((try dsimp only [ctx] at *); omega)); (case hu => first | exact roomC (by assumption) (by decide) | exact roomU (by assumption) (by decide) | ((try dsimp only [ctx] at *); omega)); (case hp => first | trivial | assumption);  (try any_goals (exact fun _ _ _ _ _ z => z.elim)); k_whole; intro v9 h9 tk9 u9 F9 N9 r9; (obtain ⟨d9, o9, k9, r9, n9, lo9, g9, i9, nk9, ln9⟩ := r9); subst r9; (obtain ⟨N9b, q9⟩ := u9 _ _ n9 g9); (try simp only [AllNe, and_true] at q9); clear N9;  (try k_sweep); (try dsimp only))) | (unfold CHold; (k_dflt (refine' mkBE _ _ _ _ _ _ _ _ _ _ _ _ _ _ _ _ _ _ _ _ _ _ _ _ _ ?B ?F ?X ?N ?T ?hk ?hd ?hu ?_; (case B => k_asm); (case F => k_asm); (case X => k_asm); (case N => k_asm); (case T => k_asm); (case hk => exact rfl); (case hd => first | exact roomD (by assumption) (by decide) | ((try dsimp only [ctx] at *); omega)); (case hu => first | exact roomC (by assumption) (by decide) | exact roomU (by assumption) (by decide) | ((try dsimp only [ctx] at *); omega)); k_whole); intro x8 d8 t8 h8 k8 u8 v8 F8 N8 e8 n8; (try k_sweep); (try dsimp only)))); k_steps))
  unfold WHold
  rename (ls[0]? = some _) => e0
  cases f0.symm.trans e0
  rename Fr g L' _ _ => F0
  rename News g L' _ _ => N0
  rename Array.size _ = List.length _ => z0
  rename List.length _ ≤ 120 => z1
  rename (_ < _ ∧ _ < _ ∧ _ < _ ∧ _ < _ ∧ _ < _) => o5
  rename (_ < _ ∧ _ < _ ∧ _ < _ ∧ _ < _) => o4
  refine' (fun (key : ∀ (h : Heap) (x d D fl : Addr) (nu : Value) (out : Array Value) (c : Nat) (ta tb tc kt : Tok), Fr g L' h (fun y => if y = "kind" then some (.int 2 kt) else if y = "reader" then some (.ref x) else if y = "words" then some (.ref D) else if y = "numbers" then some nu else if y = "found" then some (.ref fl) else List.lookup y [("octets", .ref ol)])
      → News g L' h [(x, instObj 252 d), (d, rdDict w ol 1 ta tb tc), (D, seqObj "list" out c), (fl, W.listOf #[] 0)] → @LT.lt Nat instLTNat fl D → @LT.lt Nat instLTNat D d → @LT.lt Nat instLTNat d x → out.size ≤ 120 → wpAny _ _ (exec _ _) _ _ ⟨h, gs, dr, _, os⟩) => key _ _ _ _ _ _ _ _ _ _ _ _ F0 (news4 N0 (by k_mem) (by k_mem) (by k_mem) (by k_mem)) o4.2.2.1 o5.1 (by assumption) (by omega)) ?_
  clear F0 N0 o4 o5 z0 z1 e0
  repeat (rename (_ < _ ∧ _ < _ ∧ _ < _) => zz; clear zz)
  repeat (rename (_ < _ ∧ _ < _) => zz; clear zz)
  intro h x d D fl nu out c ta tb tc kt F2 N2 o1 o2 o3 hout
  have o12 := Nat.lt_trans o1 o2
  have o23 := Nat.lt_trans o2 o3
  have o123 := Nat.lt_trans o12 o3
  (k_steps; repeat' ((first | (unfold CHold; (k_dflt (refine' Tell.useW (wordNumbers _) ?B ?F ?N ?XB ?TB ?hk ?hd ?hu ?hp ?_ ?_); (case B => k_asm); (case F => k_asm); (case N => k_asm); (case XB => k_asm); (case TB => k_asm); (case hk => exact rfl); (case hd => first | exact roomD (by assumption) (by decide) | ((try dsimp only [ctx] at *); omega)); (case hu => first | exact roomC (by assumption) (by decide) | exact roomU (by assumption) (by decide) | ((try dsimp only [ctx] at *); omega)); (case hp => first | trivial | assumption);  (try any_goals (exact fun _ _ _ _ _ z => z.elim)); k_whole; intro v9 h9 tk9 u9 F9 N9 r9; (obtain ⟨d9, o9, k9, r9, n9, lo9, g9, i9, nk9, ln9⟩ := r9); subst r9; (obtain ⟨N9b, q9⟩ := u9 _ _ n9 g9); (try simp only [AllNe, and_true] at q9); clear N9;  (try k_sweep); (try dsimp only))) | (unfold CHold; (k_dflt (refine' mkBE _ _ _ _ _ _ _ _ _ _ _ _ _ _ _ _ _ _ _ _ _ _ _ _ _ ?B ?F ?X ?N ?T ?hk ?hd ?hu ?_; (case B => k_asm); (case F => k_asm); (case X => k_asm); (case N => k_asm); (case T => k_asm); (case hk => exact rfl); (case hd => first | exact roomD (by assumption) (by decide) | ((try dsimp only [ctx] at *); omega)); (case hu => first | exact roomC (by assumption) (by decide) | exact roomU (by assumption) (by decide) | ((try dsimp only [ctx] at *); omega)); k_whole); intro x8 d8 t8 h8 k8 u8 v8 F8 N8 e8 n8; (try k_sweep); (try dsimp only)))); k_steps))
  (k_dflt (refine' TellX.useK (tokText _ _ _ _ _ _ _ _ _ ?q1 ?q2 ?q3 ?q4 ?q5) ?B ?F ?N ?hx ?hm ?XB ?TB ?hk ?hd ?hu ?hp ?U ?hno ?_ ?_); (case B => k_asm); (case F => k_asm); (case N => k_asm); (case XB => k_asm); (case TB => k_asm); (case hp => first | exact rd_of0 (by k_asm) (by k_asm) (by k_mem) (by k_mem) (by assumption) | exact rd_of (by k_asm) (by k_asm) (by k_mem) (by k_mem) (by assumption)); (case hx => k_mem); (case hm => k_mem); (case hk => exact rfl); (case hd => first | exact roomD (by assumption) (by decide) | ((try dsimp only [ctx]); omega)); (case hu => first | exact roomC (by assumption) (by decide) | exact roomU (by assumption) (by decide) | ((try dsimp only [ctx]); omega)); (case U => intro _ _ _ _; k_upd); (case hno => exact fun _ _ _ _ q => by cases q); (case q1 => omega); (case q2 => omega); (case q3 => assumption); (case q4 => assumption); (case q5 => first | exact .inl rfl | exact .inr (.inl rfl) | exact .inr (.inr rfl)); (rotate_left 1; intro e7 h7 k7 p7 t7 x7 F7 fl7 sm7; (try k_unfold); (try dsimp only); refine leave_fly (by k_asm) F7 fl7 sm7 ?_; refine holdR ?_; rotate_right 1); k_whole; intro h9 tk9 a9 u9 tp9 t9 ta9 tb9 tc9 q9 F9 N9b qq9; (dsimp only [AllNe] at qq9); (have nA9 := qq9.1); (try have nB9 := qq9.2.1); (try have nC9 := qq9.2.2.1); (try have nD9 := qq9.2.2.2.1); (try have nE9 := qq9.2.2.2.2.1); (try have nF9 := qq9.2.2.2.2.2.1); (try have nG9 := qq9.2.2.2.2.2.2.1); clear qq9; (try k_sweep); (try dsimp only))
  rotate_left 1
  · cases x1.symm.trans x7
  cases x1.symm.trans q9
  (k_steps; repeat' ((first | (unfold CHold; (k_dflt (refine' Tell.useW (wordNumbers _) ?B ?F ?N ?XB ?TB ?hk ?hd ?hu ?hp ?_ ?_); (case B => k_asm); (case F => k_asm); (case N => k_asm); (case XB => k_asm); (case TB => k_asm); (case hk => exact rfl); (case hd => first | exact roomD (by assumption) (by decide) | ((try dsimp only [ctx] at *); omega)); (case hu => first | exact roomC (by assumption) (by decide) | exact roomU (by assumption) (by decide) | ((try dsimp only [ctx] at *); omega)); (case hp => first | trivial | assumption);  (try any_goals (exact fun _ _ _ _ _ z => z.elim)); k_whole; intro v9 h9 tk9 u9 F9 N9 r9; (obtain ⟨d9, o9, k9, r9, n9, lo9, g9, i9, nk9, ln9⟩ := r9); subst r9; (obtain ⟨N9b, q9⟩ := u9 _ _ n9 g9); (try simp only [AllNe, and_true] at q9); clear N9;  (try k_sweep); (try dsimp only))) | (unfold CHold; (k_dflt (refine' mkBE _ _ _ _ _ _ _ _ _ _ _ _ _ _ _ _ _ _ _ _ _ _ _ _ _ ?B ?F ?X ?N ?T ?hk ?hd ?hu ?_; (case B => k_asm); (case F => k_asm); (case X => k_asm); (case N => k_asm); (case T => k_asm); (case hk => exact rfl); (case hd => first | exact roomD (by assumption) (by decide) | ((try dsimp only [ctx] at *); omega)); (case hu => first | exact roomC (by assumption) (by decide) | exact roomU (by assumption) (by decide) | ((try dsimp only [ctx] at *); omega)); k_whole); intro x8 d8 t8 h8 k8 u8 v8 F8 N8 e8 n8; (try k_sweep); (try dsimp only)))); k_steps))
  (k_dflt (refine' TellX.useO (takeOk _ _ _ _ _ _ ?q1 ?q2 ?q3) ?B ?F ?N ?hx ?hm ?XB ?TB ?hk ?hd ?hu ?hp ?U ?_); (case B => k_asm); (case F => k_asm); (case N => k_asm); (case XB => k_asm); (case TB => k_asm); (case hp => first | exact rd_of0 (by k_asm) (by k_asm) (by k_mem) (by k_mem) (by assumption) | exact rd_of (by k_asm) (by k_asm) (by k_mem) (by k_mem) (by assumption)); (case hx => k_mem); (case hm => k_mem); (case hk => exact rfl); (case hd => first | exact roomD (by assumption) (by decide) | ((try dsimp only [ctx]); omega)); (case hu => first | exact roomC (by assumption) (by decide) | exact roomU (by assumption) (by decide) | ((try dsimp only [ctx]); omega)); (case U => intro _ _ _; k_upd); (case q1 => omega); (case q2 => omega); (case q3 => exact f3); k_whole; intro h9 tk9 t9 ta9 tb9 tc9 F9 N9b; (try k_sweep); (try dsimp only))
  (k_steps; repeat' ((first | (unfold CHold; (k_dflt (refine' Tell.useW (wordNumbers _) ?B ?F ?N ?XB ?TB ?hk ?hd ?hu ?hp ?_ ?_); (case B => k_asm); (case F => k_asm); (case N => k_asm); (case XB => k_asm); (case TB => k_asm); (case hk => exact rfl); (case hd => first | exact roomD (by assumption) (by decide) | ((try dsimp only [ctx] at *); omega)); (case hu => first | exact roomC (by assumption) (by decide) | exact roomU (by assumption) (by decide) | ((try dsimp only [ctx] at *); omega)); (case hp => first | trivial | assumption);  (try any_goals (exact fun _ _ _ _ _ z => z.elim)); k_whole; intro v9 h9 tk9 u9 F9 N9 r9; (obtain ⟨d9, o9, k9, r9, n9, lo9, g9, i9, nk9, ln9⟩ := r9); subst r9; (obtain ⟨N9b, q9⟩ := u9 _ _ n9 g9); (try simp only [AllNe, and_true] at q9); clear N9;  (try k_sweep); (try dsimp only))) | (unfold CHold; (k_dflt (refine' mkBE _ _ _ _ _ _ _ _ _ _ _ _ _ _ _ _ _ _ _ _ _ _ _ _ _ ?B ?F ?X ?N ?T ?hk ?hd ?hu ?_; (case B => k_asm); (case F => k_asm); (case X => k_asm); (case N => k_asm); (case T => k_asm); (case hk => exact rfl); (case hd => first | exact roomD (by assumption) (by decide) | ((try dsimp only [ctx] at *); omega)); (case hu => first | exact roomC (by assumption) (by decide) | exact roomU (by assumption) (by decide) | ((try dsimp only [ctx] at *); omega)); k_whole); intro x8 d8 t8 h8 k8 u8 v8 F8 N8 e8 n8; (try k_sweep); (try dsimp only)))); k_steps))
  (k_dflt (refine' TellX.useN (tokSign _ _ _ _ _ _ _ _ ?q1 ?q2 ?q3) ?B ?F ?N ?hx ?hm ?XB ?TB ?hk ?hd ?hu ?hp ?U ?hno ?_ ?_); (case B => k_asm); (case F => k_asm); (case N => k_asm); (case XB => k_asm); (case TB => k_asm); (case hp => first | exact rd_of0 (by k_asm) (by k_asm) (by k_mem) (by k_mem) (by assumption) | exact rd_of (by k_asm) (by k_asm) (by k_mem) (by k_mem) (by assumption)); (case hx => k_mem); (case hm => k_mem); (case hk => exact rfl); (case hd => first | exact roomD (by assumption) (by decide) | ((try dsimp only [ctx]); omega)); (case hu => first | exact roomC (by assumption) (by decide) | exact roomU (by assumption) (by decide) | ((try dsimp only [ctx]); omega)); (case U => intro _ _ _; k_upd); (case hno => exact fun _ _ _ q => by cases q); (case q1 => omega); (case q2 => omega); (case q3 => assumption); (rotate_left 1; intro e7 h7 k7 p7 t7 x7 F7 fl7 sm7; (try k_unfold); (try dsimp only); refine leave_fly (by k_asm) F7 fl7 sm7 ?_; refine holdR ?_; rotate_right 1); k_whole; intro h9 tk9 tp9 t9 ta9 tb9 tc9 q9 F9 N9b qq9; (dsimp only [AllNe] at qq9); (have nA9 := qq9.1); (try have nB9 := qq9.2.1); (try have nC9 := qq9.2.2.1); (try have nD9 := qq9.2.2.2.1); (try have nE9 := qq9.2.2.2.2.1); (try have nF9 := qq9.2.2.2.2.2.1); (try have nG9 := qq9.2.2.2.2.2.2.1); clear qq9; (try k_sweep); (try dsimp only))
  rotate_left 1
  · rcases x7 with ⟨hq, _⟩ | ⟨_, z, hq, h20⟩
    · cases f4.symm.trans hq
    · cases f4.symm.trans hq; exact absurd h20 (by decide)
  clear q9
  (k_steps; repeat' ((first | (unfold CHold; (k_dflt (refine' Tell.useW (wordNumbers _) ?B ?F ?N ?XB ?TB ?hk ?hd ?hu ?hp ?_ ?_); (case B => k_asm); (case F => k_asm); (case N => k_asm); (case XB => k_asm); (case TB => k_asm); (case hk => exact rfl); (case hd => first | exact roomD (by assumption) (by decide) | ((try dsimp only [ctx] at *); omega)); (case hu => first | exact roomC (by assumption) (by decide) | exact roomU (by assumption) (by decide) | ((try dsimp only [ctx] at *); omega)); (case hp => first | trivial | assumption);  (try any_goals (exact fun _ _ _ _ _ z => z.elim)); k_whole; intro v9 h9 tk9 u9 F9 N9 r9; (obtain ⟨d9, o9, k9, r9, n9, lo9, g9, i9, nk9, ln9⟩ := r9); subst r9; (obtain ⟨N9b, q9⟩ := u9 _ _ n9 g9); (try simp only [AllNe, and_true] at q9); clear N9;  (try k_sweep); (try dsimp only))) | (unfold CHold; (k_dflt (refine' mkBE _ _ _ _ _ _ _ _ _ _ _ _ _ _ _ _ _ _ _ _ _ _ _ _ _ ?B ?F ?X ?N ?T ?hk ?hd ?hu ?_; (case B => k_asm); (case F => k_asm); (case X => k_asm); (case N => k_asm); (case T => k_asm); (case hk => exact rfl); (case hd => first | exact roomD (by assumption) (by decide) | ((try dsimp only [ctx] at *); omega)); (case hu => first | exact roomC (by assumption) (by decide) | exact roomU (by assumption) (by decide) | ((try dsimp only [ctx] at *); omega)); k_whole); intro x8 d8 t8 h8 k8 u8 v8 F8 N8 e8 n8; (try k_sweep); (try dsimp only)))); k_steps))
  (k_dflt (refine' TellX.useO (takeOk _ _ _ _ _ _ ?q1 ?q2 ?q3) ?B ?F ?N ?hx ?hm ?XB ?TB ?hk ?hd ?hu ?hp ?U ?_); (case B => k_asm); (case F => k_asm); (case N => k_asm); (case XB => k_asm); (case TB => k_asm); (case hp => first | exact rd_of0 (by k_asm) (by k_asm) (by k_mem) (by k_mem) (by assumption) | exact rd_of (by k_asm) (by k_asm) (by k_mem) (by k_mem) (by assumption)); (case hx => k_mem); (case hm => k_mem); (case hk => exact rfl); (case hd => first | exact roomD (by assumption) (by decide) | ((try dsimp only [ctx]); omega)); (case hu => first | exact roomC (by assumption) (by decide) | exact roomU (by assumption) (by decide) | ((try dsimp only [ctx]); omega)); (case U => intro _ _ _; k_upd); (case q1 => omega); (case q2 => omega); (case q3 => exact f5); k_whole; intro h9 tk9 t9 ta9 tb9 tc9 F9 N9b; (try k_sweep); (try dsimp only))
  (k_steps; repeat' ((first | (unfold CHold; (k_dflt (refine' Tell.useW (wordNumbers _) ?B ?F ?N ?XB ?TB ?hk ?hd ?hu ?hp ?_ ?_); (case B => k_asm); (case F => k_asm); (case N => k_asm); (case XB => k_asm); (case TB => k_asm); (case hk => exact rfl); (case hd => first | exact roomD (by assumption) (by decide) | ((try dsimp only [ctx] at *); omega)); (case hu => first | exact roomC (by assumption) (by decide) | exact roomU (by assumption) (by decide) | ((try dsimp only [ctx] at *); omega)); (case hp => first | trivial | assumption);  (try any_goals (exact fun _ _ _ _ _ z => z.elim)); k_whole; intro v9 h9 tk9 u9 F9 N9 r9; (obtain ⟨d9, o9, k9, r9, n9, lo9, g9, i9, nk9, ln9⟩ := r9); subst r9; (obtain ⟨N9b, q9⟩ := u9 _ _ n9 g9); (try simp only [AllNe, and_true] at q9); clear N9;  (try k_sweep); (try dsimp only))) | (unfold CHold; (k_dflt (refine' mkBE _ _ _ _ _ _ _ _ _ _ _ _ _ _ _ _ _ _ _ _ _ _ _ _ _ ?B ?F ?X ?N ?T ?hk ?hd ?hu ?_; (case B => k_asm); (case F => k_asm); (case X => k_asm); (case N => k_asm); (case T => k_asm); (case hk => exact rfl); (case hd => first | exact roomD (by assumption) (by decide) | ((try dsimp only [ctx] at *); omega)); (case hu => first | exact roomC (by assumption) (by decide) | exact roomU (by assumption) (by decide) | ((try dsimp only [ctx] at *); omega)); k_whole); intro x8 d8 t8 h8 k8 u8 v8 F8 N8 e8 n8; (try k_sweep); (try dsimp only)))); k_steps))
  (k_dflt (refine' TellX.useK (tokText _ _ _ _ _ _ _ _ _ ?q1 ?q2 ?q3 ?q4 ?q5) ?B ?F ?N ?hx ?hm ?XB ?TB ?hk ?hd ?hu ?hp ?U ?hno ?_ ?_); (case B => k_asm); (case F => k_asm); (case N => k_asm); (case XB => k_asm); (case TB => k_asm); (case hp => first | exact rd_of0 (by k_asm) (by k_asm) (by k_mem) (by k_mem) (by assumption) | exact rd_of (by k_asm) (by k_asm) (by k_mem) (by k_mem) (by assumption)); (case hx => k_mem); (case hm => k_mem); (case hk => exact rfl); (case hd => first | exact roomD (by assumption) (by decide) | ((try dsimp only [ctx]); omega)); (case hu => first | exact roomC (by assumption) (by decide) | exact roomU (by assumption) (by decide) | ((try dsimp only [ctx]); omega)); (case U => intro _ _ _ _; k_upd); (case hno => exact fun _ _ _ _ q => by cases q); (case q1 => omega); (case q2 => omega); (case q3 => assumption); (case q4 => assumption); (case q5 => first | exact .inl rfl | exact .inr (.inl rfl) | exact .inr (.inr rfl)); (rotate_left 1; intro e7 h7 k7 p7 t7 x7 F7 fl7 sm7; (try k_unfold); (try dsimp only); refine leave_fly (by k_asm) F7 fl7 sm7 ?_; refine holdR ?_; rotate_right 1); k_whole; intro h9 tk9 a9 u9 tp9 t9 ta9 tb9 tc9 q9 F9 N9b qq9; (dsimp only [AllNe] at qq9); (have nA9 := qq9.1); (try have nB9 := qq9.2.1); (try have nC9 := qq9.2.2.1); (try have nD9 := qq9.2.2.2.1); (try have nE9 := qq9.2.2.2.2.1); (try have nF9 := qq9.2.2.2.2.2.1); (try have nG9 := qq9.2.2.2.2.2.2.1); clear qq9; (try k_sweep); (try dsimp only))
  rotate_left 1
  · cases x6.symm.trans x7
  cases x6.symm.trans q9
  (k_steps; repeat' ((first | (unfold CHold; (k_dflt (refine' Tell.useW (wordNumbers _) ?B ?F ?N ?XB ?TB ?hk ?hd ?hu ?hp ?_ ?_); (case B => k_asm); (case F => k_asm); (case N => k_asm); (case XB => k_asm); (case TB => k_asm); (case hk => exact rfl); (case hd => first | exact roomD (by assumption) (by decide) | ((try dsimp only [ctx] at *); omega)); (case hu => first | exact roomC (by assumption) (by decide) | exact roomU (by assumption) (by decide) | ((try dsimp only [ctx] at *); omega)); (case hp => first | trivial | assumption);  (try any_goals (exact fun _ _ _ _ _ z => z.elim)); k_whole; intro v9 h9 tk9 u9 F9 N9 r9; (obtain ⟨d9, o9, k9, r9, n9, lo9, g9, i9, nk9, ln9⟩ := r9); subst r9; (obtain ⟨N9b, q9⟩ := u9 _ _ n9 g9); (try simp only [AllNe, and_true] at q9); clear N9;  (try k_sweep); (try dsimp only))) | (unfold CHold; (k_dflt (refine' mkBE _ _ _ _ _ _ _ _ _ _ _ _ _ _ _ _ _ _ _ _ _ _ _ _ _ ?B ?F ?X ?N ?T ?hk ?hd ?hu ?_; (case B => k_asm); (case F => k_asm); (case X => k_asm); (case N => k_asm); (case T => k_asm); (case hk => exact rfl); (case hd => first | exact roomD (by assumption) (by decide) | ((try dsimp only [ctx] at *); omega)); (case hu => first | exact roomC (by assumption) (by decide) | exact roomU (by assumption) (by decide) | ((try dsimp only [ctx] at *); omega)); k_whole); intro x8 d8 t8 h8 k8 u8 v8 F8 N8 e8 n8; (try k_sweep); (try dsimp only)))); k_steps))
  (k_dflt (refine' TellX.useO (takeOk _ _ _ _ _ _ ?q1 ?q2 ?q3) ?B ?F ?N ?hx ?hm ?XB ?TB ?hk ?hd ?hu ?hp ?U ?_); (case B => k_asm); (case F => k_asm); (case N => k_asm); (case XB => k_asm); (case TB => k_asm); (case hp => first | exact rd_of0 (by k_asm) (by k_asm) (by k_mem) (by k_mem) (by assumption) | exact rd_of (by k_asm) (by k_asm) (by k_mem) (by k_mem) (by assumption)); (case hx => k_mem); (case hm => k_mem); (case hk => exact rfl); (case hd => first | exact roomD (by assumption) (by decide) | ((try dsimp only [ctx]); omega)); (case hu => first | exact roomC (by assumption) (by decide) | exact roomU (by assumption) (by decide) | ((try dsimp only [ctx]); omega)); (case U => intro _ _ _; k_upd); (case q1 => omega); (case q2 => omega); (case q3 => exact f8); k_whole; intro h9 tk9 t9 ta9 tb9 tc9 F9 N9b; (try k_sweep); (try dsimp only))
  (k_steps; repeat' ((first | (unfold CHold; (k_dflt (refine' Tell.useW (wordNumbers _) ?B ?F ?N ?XB ?TB ?hk ?hd ?hu ?hp ?_ ?_); (case B => k_asm); (case F => k_asm); (case N => k_asm); (case XB => k_asm); (case TB => k_asm); (case hk => exact rfl); (case hd => first | exact roomD (by assumption) (by decide) | ((try dsimp only [ctx] at *); omega)); (case hu => first | exact roomC (by assumption) (by decide) | exact roomU (by assumption) (by decide) | ((try dsimp only [ctx] at *); omega)); (case hp => first | trivial | assumption);  (try any_goals (exact fun _ _ _ _ _ z => z.elim)); k_whole; intro v9 h9 tk9 u9 F9 N9 r9; (obtain ⟨d9, o9, k9, r9, n9, lo9, g9, i9, nk9, ln9⟩ := r9); subst r9; (obtain ⟨N9b, q9⟩ := u9 _ _ n9 g9); (try simp only [AllNe, and_true] at q9); clear N9;  (try k_sweep); (try dsimp only))) | (unfold CHold; (k_dflt (refine' mkBE _ _ _ _ _ _ _ _ _ _ _ _ _ _ _ _ _ _ _ _ _ _ _ _ _ ?B ?F ?X ?N ?T ?hk ?hd ?hu ?_; (case B => k_asm); (case F => k_asm); (case X => k_asm); (case N => k_asm); (case T => k_asm); (case hk => exact rfl); (case hd => first | exact roomD (by assumption) (by decide) | ((try dsimp only [ctx] at *); omega)); (case hu => first | exact roomC (by assumption) (by decide) | exact roomU (by assumption) (by decide) | ((try dsimp only [ctx] at *); omega)); k_whole); intro x8 d8 t8 h8 k8 u8 v8 F8 N8 e8 n8; (try k_sweep); (try dsimp only)))); k_steps))
  ((try dsimp only); (try (first | k_unfold | dsimp only [qk])); (try dsimp only); unfold LeaveP; dsimp only; refine ret _ _ _ (Fr.keep (by k_asm)) ?_; try dsimp only)
  exact rightRet_of (by k_asm) (by k_mem) (by k_mem) (by k_mem) (by k_mem)
end
end Mine
/-! T38 -/
namespace Mine
theorem start_T38 : True := by
  w_top off
  trivial
section




theorem refOctets (w : World) (ol : Addr) (ls : List Int) (X : Str → Value → Prop) (Rr : Prop) (tw : Tok) (hX : ∀ c v, X c v → handedIn v = true) (H : Tell w 70 263 [.ref ol] (fun g => SL g ol ls) (fun _ _ _ => Rr) X) :
    TellT w 80 277 [.str "octets" tw, .ref ol] (fun g => SL g ol ls) (RefRet Rr X) := by
  unfold TellT
  intro mean mg mb dp un gd l base g gs dr tk os Q E B XB TB D hd' hu hP ret
  revert XB; k_fill; intro XB
  have cLi := cLine_is
  have reci : recursionLimit = 1000 := rfl
  refine wpAny_call ?_
  k_dflt (refine' enterP (l0 := [("given", _), ("way", _)]) ?k1 ?k2 ?k3 ?k6 ?k7 ?k8 ?k9 ?kl ?kB ?_ ?c2 ?c3 ?c4 ?c5; (case k1 => exact B); (case k2 => exact XB); (case k3 => exact TB); (case k6 => k_is); (case k7 => k_is); (case k8 => exact roomZ hd'); (case k9 => exact BindsTo.of_eq rfl); (case kl => exact rfl); (case c5 => decide); (case kB => exact locs rfl); (case c2 => exact rfl); (case c3 => exact rfl); (case c4 => exact rfl); k_whole)
  intro L' h' tk0 F' N' X T
  dsimp only
  k_fold
  have hS : SL g ol ls := hP
  (k_with_none; (k_with "ne" => (first | exact ne_gt (by with_reducible assumption) | exact ne_lt (by with_reducible assumption) | with_reducible assumption | exact Ne.symm (by with_reducible assumption) | exact ne_gt (And.left (by with_reducible assumption)) | exact ne_gt (And.left (And.right (by with_reducible assumption))) | exact ne_gt (And.right (by with_reducible assumption)) | exact ne_gt (And.right (And.right (by with_reducible assumption))) | exact ne_lt (And.left (by with_reducible assumption)) | exact ne_lt (And.left (And.right (by with_reducible assumption))) | exact ne_lt (And.right (by with_reducible assumption)) | exact ne_lt (And.right (And.right (by with_reducible assumption))))); (k_with "call ref" => refine hold34 ?_); (k_with "exec Raise some none" => refine Raise_be rfl ?_); (k_with "call ref" => refine hold263 ?_); (k_with "getAttr ref" => ((with_reducible refine' be_code rfl ?XKw ?xKw ?dKw ?_); (case XKw => exact Frag.In.keeps (by k_asm) (Fr.keep (by k_asm))); (case xKw => exact News.get (by k_asm) (.head _)); (case dKw => exact News.get (by k_asm) (.tail _ (.head _))))); (k_with "getAttr ref" => ((with_reducible refine' be_told rfl ?XKw ?xKw ?dKw ?vKw ?_); (case XKw => exact Frag.In.keeps (by k_asm) (Fr.keep (by k_asm))); (case xKw => exact News.get (by k_asm) (.head _)); (case dKw => exact News.get (by k_asm) (.tail _ (.head _))); (case vKw => assumption))); k_steps; repeat' ((first | (unfold CHold; (k_dflt (refine' Tell.use (‹Tell _ 70 263 _ _ _ _›) ?B ?F ?N ?XB ?TB ?hk ?hd ?hu ?hp ?_ ?_); (case B => k_asm); (case F => k_asm); (case N => k_asm); (case XB => k_asm); (case TB => k_asm); (case hk => exact rfl); (case hd => first | exact roomD (by assumption) (by decide) | ((try dsimp only [ctx] at *); omega)); (case hu => first | exact roomC (by assumption) (by decide) | exact roomU (by assumption) (by decide) | ((try dsimp only [ctx] at *); omega)); (case hp => first | trivial | assumption | (exact SL.up (by k_asm) (by assumption)));  (rotate_left 1; intro e7 h7 k7 c7 v7 x7 fl7 sm7; refine holdR ?_; rotate_right 1); k_whole; intro v9 h9 tk9 st9 F9 N9 r9; (try dsimp only at r9); (first | subst r9 | (obtain ⟨t9, r9⟩ := r9; subst r9) | (obtain ⟨n9, t9, r9, e9⟩ := r9; subst r9) | skip); (try k_sweep); (try dsimp only))) | (unfold CHold; (k_dflt (refine' mkBE _ _ _ _ _ _ _ _ _ _ _ _ _ _ _ _ _ _ _ _ _ _ _ _ _ ?B ?F ?X ?N ?T ?hk ?hd ?hu ?_; (case B => k_asm); (case F => k_asm); (case X => k_asm); (case N => k_asm); (case T => k_asm); (case hk => exact rfl); (case hd => first | exact roomD (by assumption) (by decide) | ((try dsimp only [ctx] at *); omega)); (case hu => first | exact roomC (by assumption) (by decide) | exact roomU (by assumption) (by decide) | ((try dsimp only [ctx] at *); omega)); k_whole); intro x8 d8 t8 h8 k8 u8 v8 F8 N8 e8 n8; (try k_sweep); (try dsimp only)))); k_steps))
  · ((try dsimp only); (try (first | k_unfold | dsimp only [qk])); (try dsimp only); unfold LeaveP; dsimp only; refine ret _ _ _ ?_ ?_; try dsimp only)
    · exact StaysF.same (Fr.keep (by k_asm))
    · exact .inl ⟨rfl, by assumption⟩
  · unfold RHold
    rename (_ : Str) → _ → _ => XX
    rename Fly _ _ _ _ _ _ _ _ => fl
    rename Heap.UpToSlots _ _ => sm
    refine caught_be fl F' B sm XB TB D ?_
    intro h1 g1 d vs sl tc t1 t2 tk1 T1 F1 N1 de B1 X1 TT1 D1
    have hv := hX _ _ (by assumption)
    clear F' N'
    (k_steps; repeat' ((first | (unfold CHold; (k_dflt (refine' Tell.use (‹Tell _ 70 263 _ _ _ _›) ?B ?F ?N ?XB ?TB ?hk ?hd ?hu ?hp ?_ ?_); (case B => k_asm); (case F => k_asm); (case N => k_asm); (case XB => k_asm); (case TB => k_asm); (case hk => exact rfl); (case hd => first | exact roomD (by assumption) (by decide) | ((try dsimp only [ctx] at *); omega)); (case hu => first | exact roomC (by assumption) (by decide) | exact roomU (by assumption) (by decide) | ((try dsimp only [ctx] at *); omega)); (case hp => first | trivial | assumption | (exact SL.up (by k_asm) (by assumption)));  (rotate_left 1; intro e7 h7 k7 c7 v7 x7 fl7 sm7; refine holdR ?_; rotate_right 1); k_whole; intro v9 h9 tk9 st9 F9 N9 r9; (try dsimp only at r9); (first | subst r9 | (obtain ⟨t9, r9⟩ := r9; subst r9) | (obtain ⟨n9, t9, r9, e9⟩ := r9; subst r9) | skip); (try k_sweep); (try dsimp only))) | (unfold CHold; (k_dflt (refine' mkBE _ _ _ _ _ _ _ _ _ _ _ _ _ _ _ _ _ _ _ _ _ _ _ _ _ ?B ?F ?X ?N ?T ?hk ?hd ?hu ?_; (case B => k_asm); (case F => k_asm); (case X => k_asm); (case N => k_asm); (case T => k_asm); (case hk => exact rfl); (case hd => first | exact roomD (by assumption) (by decide) | ((try dsimp only [ctx] at *); omega)); (case hu => first | exact roomC (by assumption) (by decide) | exact roomU (by assumption) (by decide) | ((try dsimp only [ctx] at *); omega)); k_whole); intro x8 d8 t8 h8 k8 u8 v8 F8 N8 e8 n8; (try k_sweep); (try dsimp only)))); k_steps))
    ((try dsimp only); (try (first | k_unfold | dsimp only [qk])); (try dsimp only); unfold LeaveP; dsimp only; refine ret _ _ _ ?_ ?_; try dsimp only)
    · exact StaysF.of T1 (Fr.keep (by k_asm))
    · exact .inr ⟨_, _, _, _, by assumption, rfl, turn_back T1 (News.fresh (by k_asm) (.head _)), News.get (by k_asm) (.head _)⟩
end
theorem octSome (w : World) (ol : Addr) (ls : List Int) (p : Nat) (tw : Tok) (hlen : ls.length ≤ 20) (hb : ∀ z ∈ ls, 0 ≤ z ∧ z < 256) (H : runs ls = some p) :
    TellT w 80 277 [.str "octets" tw, .ref ol] (fun g => SL g ol ls) (TupRet "SN" (p : Int)) :=
  (refOctets w ol ls _ False tw (fun c v ⟨_, t, e⟩ => by rw [e]; rfl) ((uncrErr w ol ls p hlen hb H))).mono
    (fun g h v R => R.elim (fun z => z.2.elim) fun ⟨c', q, ad, tc, ⟨e1, t, e2⟩, h1, h2, h3⟩ => by
      subst e1 e2; exact ⟨ad, tc, t, h1, h2, h3⟩)
end Mine
/-! T39 -/
namespace Mine
theorem start_T39 : True := by
  w_top off
  trivial
theorem allNe_mem {a b : Addr} {o : Obj} : ∀ {all : List (Addr × Obj)}, AllNe a all → (b, o) ∈ all → a ≠ b
  | _ :: _, h, .head _ => Ne.symm h.1
  | _ :: _, h, .tail _ m => allNe_mem h.2 m
theorem sl_news {g h : Heap} {L ol : Addr} {all : List (Addr × Obj)} {vs : List Value} {n : Nat} {ls : List Int} (N : News g L h all) (hm : (ol, W.listOf vs.toArray n) ∈ all) (hi : IntsAre vs ls) : SL h ol ls := ⟨vs, ⟨_, (N _ hm).1, rfl, n, rfl⟩, hi⟩
theorem octZ (w : World) (ol : Addr) (ls : List Int) (z : Int) (tw : Tok) (hlen : ls.length ≤ 20) (hb : ∀ z ∈ ls, 0 ≤ z ∧ z < 256) (hz : 0 ≤ z) (H : runs ls = some z.toNat) :
    TellT w 80 277 [.str "octets" tw, .ref ol] (fun g => SL g ol ls) (TupRet "SN" z) := by
  have := octSome w ol ls z.toNat tw hlen hb H
  rwa [Int.toNat_of_nonneg hz] at this
/-- the octets that were drawn, and the place that is due -/
def OctCase (g : Heap) (L : Addr) (h : Heap) (b : Addr) (ob : Obj) (v : Value) : Prop := ∃ (ad oc : Addr) (vs : List Value) (n : Nat) (z : Int) (tz : Tok) (ls : List Int), v = .ref ad ∧
  News g L h [(b, ob), (ad, { cls := .type "tuple", data := .seq #[.ref oc, .int z tz] }), (oc, W.listOf vs.toArray n)] ∧ IntsAre vs ls ∧ ls.length ≤ 20 ∧ (∀ z ∈ ls, 0 ≤ z ∧ z < 256) ∧ 0 ≤ z ∧ runs ls = some z.toNat
theorem oct_of {g h : Heap} {L b : Addr} {ob : Obj} {all : List (Addr × Obj)} {ad oc : Addr} {vs : List Value} {n : Nat} {z : Int} {tz : Tok} {ls : List Int} (N : News g L h all)
    (S : SubL [(b, ob), (ad, { cls := .type "tuple", data := .seq #[.ref oc, .int z tz] }), (oc, W.listOf vs.toArray n)] all) (hi : IntsAre vs ls) (hlen : ls.length ≤ 20) (hb : ∀ z ∈ ls, 0 ≤ z ∧ z < 256) (hz : 0 ≤ z) (hr : runs ls = some z.toNat) : OctCase g L h b ob (.ref ad) :=
  ⟨ad, oc, vs, n, z, tz, ls, rfl, news_sub N S, hi, hlen, hb, hz, hr⟩
def intLit : PySem.Expr → Option Int
  | .Constant (.int i) _ _ => some i
  | _ => none
def intLits : List PySem.Expr → Option (List Int)
  | [] => some []
  | e :: r => match intLit e, intLits r with | some i, some l => some (i :: l) | _, _ => none
/-- the new address is none of these -/
def Apart (D : Addr) (news : List (Addr × Obj)) : Prop := ∀ p ∈ news, p.1 ≠ D
/-- each of these values is a pair of octets and the place that is due, written in led -/
def OctVals (led : List (Addr × Obj)) (vs : List Value) : Prop := ∀ v ∈ vs, ∃ (D oc : Addr) (ws : List Value) (n m : Nat) (z : Int) (tz : Tok) (ls : List Int), v = .ref D ∧ (D, ({ cls := .type "tuple", data := .seq #[.ref oc, .int z tz] m } : Obj)) ∈ led ∧ (oc, W.listOf ws.toArray n) ∈ led ∧
  IntsAre ws ls ∧ ls.length ≤ 20 ∧ (∀ z ∈ ls, 0 ≤ z ∧ z < 256) ∧ 0 ≤ z ∧ runs ls = some z.toNat
theorem OctVals.mono {led led' : List (Addr × Obj)} {vs : List Value} (H : OctVals led vs) (S : ∀ p ∈ led, p ∈ led') : OctVals led' vs := fun v hv => by
  obtain ⟨D, oc, ws, n, m, z, tz, ls, e, h1, h2, r⟩ := H v hv
  exact ⟨D, oc, ws, n, m, z, tz, ls, e, S _ h1, S _ h2, r⟩
theorem OctVals.nil {led : List (Addr × Obj)} : OctVals led [] := fun _ h => nomatch h
section
variable {M : Model} {A : Around} {E : Value → Shared → Prop} {g h : Heap} {L b r : Addr} {m : Str → Option Value} {gs : Array GenState} {dr : Drawn} {tk : Nat} {os : OsState} {ob ro : Obj} {extra : List (Addr × Obj)} {acc : List Value} {ls : List Int} {Q : Value → Shared → Prop}
theorem argsInts {env : Env} {pos : Pos} : ∀ {elts : List PySem.Expr} {zs : List Int} {Q : List Value → Shared → Prop} {tk : Nat} (_ : intLits elts = some zs) (_ : ∀ vs t', IntsAre vs zs → Q vs ⟨h, gs, dr, t', os⟩), wpAny M A (spliced (backTo pos (starEach elts env))) Q E ⟨h, gs, dr, tk, os⟩
  | [], zs, Q, tk, e, k => by
    cases e
    exact args_nil (k [] _ .nil)
  | e :: rest, zs, Q, tk, he, k => by
    unfold intLits at he
    cases h1 : intLit e with | none => rw [h1] at he; cases he | some i =>
      cases h2 : intLits rest with
      | none => rw [h1, h2] at he; cases he
      | some l =>
        rw [h1, h2] at he
        cases he
        unfold intLit at h1
        split at h1
        · cases h1
          exact args_cons (wpAny_Constant_int (argsInts h2 fun vs t' hv => k _ t' (.cons _ _ hv)))
        · cases h1
theorem litList {env : Env} {pos : Pos} {elts : List PySem.Expr} {zs : List Int} {news : List (Addr × Obj)} (F : Fr g L h m) (N : News g L h news) (hz : intLits elts = some zs) (hl : zs.length ≤ 100)
    (ret : ∀ D h' vs n tk', IntsAre vs zs → Fr g L h' m → News g L h' ((D, W.listOf vs.toArray n) :: news) → Apart D news → Q (.ref D) ⟨h', gs, dr, tk', os⟩) : LHold (wpAny M A (eval (.List elts pos) env) Q E ⟨h, gs, dr, tk, os⟩) :=
  mkL <| List_ (argsInts hz fun vs t' hv => newList_K F N (fun l h' F' N' hlt => ret l h' vs 0 t' hv F' N' fun p hp => Nat.ne_of_lt (hlt p hp)) (by rw [hv.length]; exact Nat.le_trans hl (by decide)))
theorem apart_get {D : Addr} {news : List (Addr × Obj)} (H : Apart D news) (hb : (b, ob) ∈ news) : D ≠ b := Ne.symm (H _ hb)
/-- a pair is made: what is written of it -/
theorem foldPair {oc : Addr} {ws : List Value} {n : Nat} {z : Int} {tz : Tok} {pre : List (Addr × Obj)} (F : Fr g L h m) (N : News g L h (pre ++ (b, ob) :: (r, ro) :: extra)) (hp : (oc, W.listOf ws.toArray n) ∈ pre ∨ (oc, W.listOf ws.toArray n) = (r, ro)) (hi : IntsAre ws ls)
    (hne : ∀ p ∈ pre, p.1 ≠ b) (ok : ls.length ≤ 20 ∧ (∀ z ∈ ls, 0 ≤ z ∧ z < 256) ∧ 0 ≤ z ∧ runs ls = some z.toNat) (hb : ∀ p ∈ (r, ro) :: extra, p.1 ≠ b) (hA : OctVals ((r, ro) :: extra) acc)
    (ret : ∀ D h' extra', Fr g L h' m → News g L h' ((b, ob) :: (r, ro) :: extra') → (∀ p ∈ (r, ro) :: extra', p.1 ≠ b) → OctVals ((r, ro) :: extra') (.ref D :: acc) → Q (.ref D) ⟨h', gs, dr, tk, os⟩) :
    LHold (wpAny M A (newTuple [.ref oc, .int z tz]) Q E ⟨h, gs, dr, tk, os⟩) :=
  mkL <| kup_newTuple F N (fun D h' F' N' hlt => by
    have sub : ∀ p ∈ (r, ro) :: (pre ++ extra), p ∈ pre ++ (b, ob) :: (r, ro) :: extra := fun p hp => by
      rcases List.mem_cons.mp hp with rfl | hp
      · simp
      · rcases List.mem_append.mp hp with hp | hp
        · exact List.mem_append.mpr (.inl hp)
        · simp [hp]
    have mono : ∀ p ∈ (r, ro) :: extra, p ∈ (r, ro) :: ((D, ({ cls := .type "tuple", data := .seq #[.ref oc, .int z tz] } : Obj)) :: (pre ++ extra)) := fun p hp => by
      rcases List.mem_cons.mp hp with rfl | hp
      · exact .head _
      · exact .tail _ (.tail _ (List.mem_append.mpr (.inr hp)))
    refine ret D h' ((D, ({ cls := .type "tuple", data := .seq #[.ref oc, .int z tz] } : Obj)) :: (pre ++ extra)) F' (fun p hp => ?_) (fun p hp => ?_) (fun v hv => ?_)
    · rcases List.mem_cons.mp hp with rfl | hp
      · exact N' _ (.tail _ (List.mem_append.mpr (.inr (.head _))))
      · rcases List.mem_cons.mp hp with rfl | hp
        · exact N' _ (.tail _ (List.mem_append.mpr (.inr (.tail _ (.head _)))))
        · rcases List.mem_cons.mp hp with rfl | hp
          · exact N' _ (.head _)
          · exact N' _ (.tail _ (sub _ (.tail _ hp)))
    · rcases List.mem_cons.mp hp with rfl | hp
      · exact hb _ (.head _)
      · rcases List.mem_cons.mp hp with rfl | hp
        · exact fun e => Nat.lt_irrefl _ (e ▸ hlt (b, ob) (List.mem_append.mpr (.inr (.head _))))
        · rcases List.mem_append.mp hp with hp | hp
          · exact hne _ hp
          · exact hb _ (.tail _ hp)
    · rcases List.mem_cons.mp hv with rfl | hv
      · refine ⟨D, oc, ws, n, _, z, tz, ls, rfl, .tail _ (.head _), ?_, hi, ok⟩
        rcases hp with hp | hp
        · exact .tail _ (.tail _ (List.mem_append.mpr (.inl hp)))
        · rw [hp]; exact .head _
      · exact hA.mono mono v hv) (show 2 ≤ sizeLine by decide)
/-- a pair of a written list and a written place -/
theorem litPair {env : Env} {pos pos' pos'' : Pos} {k : Nat} {elts : List PySem.Expr} {z : Int} {kd : Nat} (F : Fr g L h m) (N : News g L h ((b, ob) :: (r, ro) :: extra)) (hz : intLits elts = some ls) (ok : ls.length ≤ 20 ∧ (∀ z ∈ ls, 0 ≤ z ∧ z < 256) ∧ 0 ≤ z ∧ runs ls = some z.toNat)
    (hb : ∀ p ∈ (r, ro) :: extra, p.1 ≠ b) (hA : OctVals ((r, ro) :: extra) acc)
    (ret : ∀ D h' tk' extra', Fr g L h' m → News g L h' ((b, ob) :: (r, ro) :: extra') → (∀ p ∈ (r, ro) :: extra', p.1 ≠ b) → OctVals ((r, ro) :: extra') (.ref D :: acc) → Q (.ref D) ⟨h', gs, dr, tk', os⟩) :
    LHold (wpAny M A (eval (.Tuple [.List elts pos', .Constant (.int z) kd pos''] k pos) env) Q E ⟨h, gs, dr, tk, os⟩) :=
  mkL <| Tuple_ (args_cons (holdL <| litList F N hz (Nat.le_trans ok.1 (by decide)) fun oc h' vs n tk' hi F' N' hf => args_cons (wpAny_Constant_int (args_nil
    (holdL <| foldPair (b := b) (r := r) (pre := [(oc, W.listOf vs.toArray n)]) F' N' (.inl (.head _)) hi (fun p hp => by rw [List.mem_singleton.mp hp]; exact apart_get hf (.head _)) ok hb hA fun D h' extra' F' N' hb hA => ret D h' _ extra' F' N' hb hA)))))
end
theorem item_oct {prog : Program} {w : World} {A : Around} {E : Value → Shared → Prop} {g : Heap} {L lst b : Addr} {value slice : PySem.Expr} {led all : List (Addr × Obj)} {ob : Obj} {vs : List Value} {nl : Nat} {k : Int} {u : Tok} {Q : Value → Shared → Prop} {s : Shared}
    (N : News g L s.heap all) (hm : (lst, W.listOf vs.toArray nl) ∈ all) (hb : (b, ob) ∈ all) (hled : ∀ p ∈ led, p ∈ all) (H : OctVals led vs.reverse) (h0 : 0 ≤ k) (h1 : k < 13) (hlen : vs.length = 13)
    (h : ∀ (ad oc : Addr) (ws : List Value) (n m : Nat) (z : Int) (tz : Tok) (ls : List Int), News g L s.heap [(b, ob), (ad, { cls := .type "tuple", data := .seq #[.ref oc, .int z tz] m }), (oc, W.listOf ws.toArray n)] → IntsAre ws ls → ls.length ≤ 20 → (∀ z ∈ ls, 0 ≤ z ∧ z < 256) → 0 ≤ z → runs ls = some z.toNat → Q (.ref ad) s)
    (hs : subscripted slice false (.ref lst) (.int k u) = operate [.ref lst, .int k u] (getItem (.ref lst) (.int k u)) := by with_unfolding_all rfl) :
    wpAny (model prog w) A (subscriptTail value slice (.ref lst) (.int k u)) Q E s := by
  have hlt : k.toNat < vs.length := by omega
  have hv : vs[k.toNat]? = some vs[k.toNat] := by simp [hlt]
  obtain ⟨ad, oc, ws, n, m, z, tz, ls, e, m1, m2, hi, r1, r2, r3, r4⟩ := H vs[k.toNat] (List.mem_reverse.mpr (List.getElem_mem hlt))
  have hl : s.heap.IsList lst vs.toArray := ⟨_, (N _ hm).1, rfl, nl, rfl⟩
  refine tail_any hl.typeIs slot_list_getitem.lookup (wpAny_getItem_list hl h0 (by omega) (x := vs[k.toNat]) (by simpa using hv) ?_) hs
  rw [e]
  exact h ad oc ws n m z tz ls (news_sub N ⟨hb, hled _ m1, hled _ m2, trivial⟩) hi r1 r2 r3 r4
section







set_option profiler true in
set_option profiler.threshold 1000 in
theorem octetsRight (w : World) (b sl : Addr) (k s : Int) (ns : List Int) (hk : 0 ≤ k ∧ k ≤ 80) (hs : 0 ≤ s ∧ s ≤ 100) (hns : ns.length ≤ 100) :
    TellB w 100 298 b [.ref b] (fun g => BinAt g b sl k s ∧ SL g sl ns ∧ sl ≠ b) (fun _ h' v => (∃ k', k ≤ k' ∧ k' ≤ k + 20 ∧ BinAt h' b sl k' s) ∧ v = .bool true) := by
  unfold TellB
  intro mean mg mb dp un gd l base g gs dr tk os Q E B XB TB D hb hbF hd' hu hP ret
  revert XB; k_fill; intro XB
  have cLi := cLine_is
  have reci : recursionLimit = 1000 := rfl
  refine wpAny_call ?_
  k_dflt (refine' enterP (l0 := [("bin_now", _)]) ?k1 ?k2 ?k3 ?k6 ?k7 ?k8 ?k9 ?kl ?kB ?_ ?c2 ?c3 ?c4 ?c5; (case k1 => exact B); (case k2 => exact XB); (case k3 => exact TB); (case k6 => k_is); (case k7 => k_is); (case k8 => exact roomZ hd'); (case k9 => exact BindsTo.of_eq rfl); (case kl => exact rfl); (case c5 => decide); (case kB => exact locs rfl); (case c2 => exact rfl); (case c3 => exact rfl); (case c4 => exact rfl); k_whole)
  intro L' h' tk0 F' N' X T
  dsimp only
  k_fold
  obtain ⟨⟨tk1, ts1, n1, hg⟩, hS, hne⟩ := hP
  have F1 := hide_fr (b := b) F'; have N1 := hide_news F' N' hg; have B1 := hide_below B hb hbF; have D1 := hide_dicts D hbF; have X1 := XB.keeps B1.stays; have T1 := TB.keeps B1.stays; clear F' N' B X T D
  have hS1 := hS.hide hne
  clear hS
  (k_with_none; (k_with "ne" => (first | exact ne_gt (by with_reducible assumption) | exact ne_lt (by with_reducible assumption) | with_reducible assumption | exact Ne.symm (by with_reducible assumption) | exact ne_gt (And.left (by with_reducible assumption)) | exact ne_gt (And.left (And.right (by with_reducible assumption))) | exact ne_gt (And.right (by with_reducible assumption)) | exact ne_gt (And.right (And.right (by with_reducible assumption))) | exact ne_lt (And.left (by with_reducible assumption)) | exact ne_lt (And.left (And.right (by with_reducible assumption))) | exact ne_lt (And.right (by with_reducible assumption)) | exact ne_lt (And.right (And.right (by with_reducible assumption))))); (k_with "subscriptTail" => refine holdF' ?_); (k_with "eval List" => refine holdL ?_); (k_with "eval Tuple" => refine holdL ?_); (k_with "newTuple" => refine holdL ?_); (k_with "call ref" => ((first | (with_reducible show wpAny _ _ (call (.ref 263) _) _ _ _) ); (refine holdU ?_))); (k_with "call ref" => refine hold270 ?_); (k_with "call ref" => refine hold277 ?_); k_steps; repeat' ((first | (k_dflt (refine' TellT.useP (octZ _ _ _ _ _ ?q1 ?q2 ?q3 ?q4) ?B ?F ?N ?XB ?TB ?D ?hk ?hd ?hu ?hp ?_; (case B => k_asm); (case F => k_asm); (case N => k_asm); (case XB => k_asm); (case TB => k_asm); (case D => k_asm); (case hk => exact rfl); (case hd => first | exact roomD (by assumption) (by decide) | ((try dsimp only [ctx]); omega)); (case hu => first | exact roomC (by assumption) (by decide) | exact roomU (by assumption) (by decide) | ((try dsimp only [ctx]); omega)); (case hp => first | trivial | assumption | (exact sl_news (by k_asm) (by k_mem) (by assumption))); (case q1 => assumption); (case q2 => assumption); (case q3 => assumption); (case q4 => assumption); k_whole); intro h9 tk9 g9 a9 c9 t9 T9 F9 N9b q9 B9 X9 TT9 D9; (dsimp only [AllNe] at q9); (try k_sweep); (try dsimp only)) | (k_dflt (refine' TellC.useI (scoop _ _ _ _ _ _ _ _ ?q1 ?q2 ?q3 ?q4) ?B ?F ?N ?hm ?XB ?TB ?hk ?hd ?hu ?hp ?U ?_; (case B => k_asm); (case F => k_asm); (case N => k_asm); (case hm => k_mem); (case XB => k_asm); (case TB => k_asm); (case hk => exact rfl); (case hd => first | exact roomD (by assumption) (by decide) | ((try dsimp only [ctx]); omega)); (case hu => first | exact roomC (by assumption) (by decide) | exact roomU (by assumption) (by decide) | ((try dsimp only [ctx]); omega)); (case hp => first | trivial | assumption | (exact ⟨⟨_, _, _, News.get (by k_asm) (by k_mem)⟩, SL.up (by k_asm) (by assumption), by assumption⟩)); (case U => intro _ _ _; k_upd); (case q1 => first | assumption | omega); (case q2 => first | assumption | omega); (case q3 => decide); (case q4 => assumption); k_whole); intro h9 tk9 z9 t9 tb9 ts9 nb9 lo9 hi9 F9 N9b; (try k_sweep); (try dsimp only))); k_steps))
  refine' litList (zs := [2, 1, 65, 5, 1, 3, 1, 55]) (by k_asm) (by k_asm) rfl (by decide) ?_
  intro r h1 vs1 n2 t2 hi1 F2 N2 hf2
  have hrb : r ≠ b := apart_get hf2 (.head _)
  (k_steps; repeat' ((first | (k_dflt (refine' TellT.useP (octZ _ _ _ _ _ ?q1 ?q2 ?q3 ?q4) ?B ?F ?N ?XB ?TB ?D ?hk ?hd ?hu ?hp ?_; (case B => k_asm); (case F => k_asm); (case N => k_asm); (case XB => k_asm); (case TB => k_asm); (case D => k_asm); (case hk => exact rfl); (case hd => first | exact roomD (by assumption) (by decide) | ((try dsimp only [ctx]); omega)); (case hu => first | exact roomC (by assumption) (by decide) | exact roomU (by assumption) (by decide) | ((try dsimp only [ctx]); omega)); (case hp => first | trivial | assumption | (exact sl_news (by k_asm) (by k_mem) (by assumption))); (case q1 => assumption); (case q2 => assumption); (case q3 => assumption); (case q4 => assumption); k_whole); intro h9 tk9 g9 a9 c9 t9 T9 F9 N9b q9 B9 X9 TT9 D9; (dsimp only [AllNe] at q9); (try k_sweep); (try dsimp only)) | (k_dflt (refine' TellC.useI (scoop _ _ _ _ _ _ _ _ ?q1 ?q2 ?q3 ?q4) ?B ?F ?N ?hm ?XB ?TB ?hk ?hd ?hu ?hp ?U ?_; (case B => k_asm); (case F => k_asm); (case N => k_asm); (case hm => k_mem); (case XB => k_asm); (case TB => k_asm); (case hk => exact rfl); (case hd => first | exact roomD (by assumption) (by decide) | ((try dsimp only [ctx]); omega)); (case hu => first | exact roomC (by assumption) (by decide) | exact roomU (by assumption) (by decide) | ((try dsimp only [ctx]); omega)); (case hp => first | trivial | assumption | (exact ⟨⟨_, _, _, News.get (by k_asm) (by k_mem)⟩, SL.up (by k_asm) (by assumption), by assumption⟩)); (case U => intro _ _ _; k_upd); (case q1 => first | assumption | omega); (case q2 => first | assumption | omega); (case q3 => decide); (case q4 => assumption); k_whole); intro h9 tk9 z9 t9 tb9 ts9 nb9 lo9 hi9 F9 N9b; (try k_sweep); (try dsimp only))); k_steps))
  refine' litList (zs := [0]) (by k_asm) (by k_asm) rfl (by decide) ?_
  intro r2 h2 vs2 n3 t3 hi2 F3 N3 hf3
  clear hf3
  (k_steps; repeat' ((first | (k_dflt (refine' TellT.useP (octZ _ _ _ _ _ ?q1 ?q2 ?q3 ?q4) ?B ?F ?N ?XB ?TB ?D ?hk ?hd ?hu ?hp ?_; (case B => k_asm); (case F => k_asm); (case N => k_asm); (case XB => k_asm); (case TB => k_asm); (case D => k_asm); (case hk => exact rfl); (case hd => first | exact roomD (by assumption) (by decide) | ((try dsimp only [ctx]); omega)); (case hu => first | exact roomC (by assumption) (by decide) | exact roomU (by assumption) (by decide) | ((try dsimp only [ctx]); omega)); (case hp => first | trivial | assumption | (exact sl_news (by k_asm) (by k_mem) (by assumption))); (case q1 => assumption); (case q2 => assumption); (case q3 => assumption); (case q4 => assumption); k_whole); intro h9 tk9 g9 a9 c9 t9 T9 F9 N9b q9 B9 X9 TT9 D9; (dsimp only [AllNe] at q9); (try k_sweep); (try dsimp only)) | (k_dflt (refine' TellC.useI (scoop _ _ _ _ _ _ _ _ ?q1 ?q2 ?q3 ?q4) ?B ?F ?N ?hm ?XB ?TB ?hk ?hd ?hu ?hp ?U ?_; (case B => k_asm); (case F => k_asm); (case N => k_asm); (case hm => k_mem); (case XB => k_asm); (case TB => k_asm); (case hk => exact rfl); (case hd => first | exact roomD (by assumption) (by decide) | ((try dsimp only [ctx]); omega)); (case hu => first | exact roomC (by assumption) (by decide) | exact roomU (by assumption) (by decide) | ((try dsimp only [ctx]); omega)); (case hp => first | trivial | assumption | (exact ⟨⟨_, _, _, News.get (by k_asm) (by k_mem)⟩, SL.up (by k_asm) (by assumption), by assumption⟩)); (case U => intro _ _ _; k_upd); (case q1 => first | assumption | omega); (case q2 => first | assumption | omega); (case q3 => decide); (case q4 => assumption); k_whole); intro h9 tk9 z9 t9 tb9 ts9 nb9 lo9 hi9 F9 N9b; (try k_sweep); (try dsimp only))); k_steps))
  unfold UHold
  (k_dflt (refine' Tell.useU (uncrRight _ _ [2, 1, 65, 5, 1, 3, 1, 55, 0] rfl) ?B ?F ?N ?XB ?TB ?hk ?hd ?hu ?hp ?_ ?_); (case B => k_asm); (case F => k_asm); (case N => k_asm); (case XB => k_asm); (case TB => k_asm); (case hk => exact rfl); (case hd => first | exact roomD (by assumption) (by decide) | ((try dsimp only [ctx] at *); omega)); (case hu => first | exact roomC (by assumption) (by decide) | exact roomU (by assumption) (by decide) | ((try dsimp only [ctx] at *); omega)); (case hp => first | trivial | assumption | (exact sl_news (by k_asm) (by k_mem) (by assumption)));  (try any_goals (exact fun _ _ _ _ _ z => z.elim)); k_whole; intro v9 h9 tk9 u9 F9 N9 r9; (obtain ⟨fl9, pa9, pb9, pc9, c9, ka9, kb9, kc9, ta9, tb9, tc9, r9, nf9, na9, nb9, nc9, gf9, ga9, gb9, gc9⟩ := r9); subst r9; (have Na9 := News.more F9 N9 ga9 (fun es n q => by cases q) (u9 _ na9).1); (have Nb9 := News.more F9 Na9 gb9 (fun es n q => by cases q) (u9 _ nb9).1); (have Nc9 := News.more F9 Nb9 gc9 (fun es n q => by cases q) (u9 _ nc9).1); (have Nf9 := News.more F9 Nc9 gf9 (fun es n q => by cases q) (u9 _ nf9).1); (have qa9 := (u9 _ na9).2); (have qb9 := (u9 _ nb9).2); (have qc9 := (u9 _ nc9).2); (have qf9 := (u9 _ nf9).2); (have ea9 := allNe_mem (b := b) qa9 (by k_mem)); (have eb9 := allNe_mem (b := b) qb9 (by k_mem)); (have ec9 := allNe_mem (b := b) qc9 (by k_mem)); (have ef9 := allNe_mem (b := b) qf9 (by k_mem)); clear N9 Na9 Nb9 Nc9 qa9 qb9 qc9 qf9;  (try k_sweep); (try dsimp only))
  (k_steps; repeat' ((first | (k_dflt (refine' TellT.useP (octZ _ _ _ _ _ ?q1 ?q2 ?q3 ?q4) ?B ?F ?N ?XB ?TB ?D ?hk ?hd ?hu ?hp ?_; (case B => k_asm); (case F => k_asm); (case N => k_asm); (case XB => k_asm); (case TB => k_asm); (case D => k_asm); (case hk => exact rfl); (case hd => first | exact roomD (by assumption) (by decide) | ((try dsimp only [ctx]); omega)); (case hu => first | exact roomC (by assumption) (by decide) | exact roomU (by assumption) (by decide) | ((try dsimp only [ctx]); omega)); (case hp => first | trivial | assumption | (exact sl_news (by k_asm) (by k_mem) (by assumption))); (case q1 => assumption); (case q2 => assumption); (case q3 => assumption); (case q4 => assumption); k_whole); intro h9 tk9 g9 a9 c9 t9 T9 F9 N9b q9 B9 X9 TT9 D9; (dsimp only [AllNe] at q9); (try k_sweep); (try dsimp only)) | (k_dflt (refine' TellC.useI (scoop _ _ _ _ _ _ _ _ ?q1 ?q2 ?q3 ?q4) ?B ?F ?N ?hm ?XB ?TB ?hk ?hd ?hu ?hp ?U ?_; (case B => k_asm); (case F => k_asm); (case N => k_asm); (case hm => k_mem); (case XB => k_asm); (case TB => k_asm); (case hk => exact rfl); (case hd => first | exact roomD (by assumption) (by decide) | ((try dsimp only [ctx]); omega)); (case hu => first | exact roomC (by assumption) (by decide) | exact roomU (by assumption) (by decide) | ((try dsimp only [ctx]); omega)); (case hp => first | trivial | assumption | (exact ⟨⟨_, _, _, News.get (by k_asm) (by k_mem)⟩, SL.up (by k_asm) (by assumption), by assumption⟩)); (case U => intro _ _ _; k_upd); (case q1 => first | assumption | omega); (case q2 => first | assumption | omega); (case q3 => decide); (case q4 => assumption); k_whole); intro h9 tk9 z9 t9 tb9 ts9 nb9 lo9 hi9 F9 N9b; (try k_sweep); (try dsimp only))); k_steps))
  repeat' ((first | ((with_reducible show LHold (wpAny _ _ (eval (PySem.Expr.Tuple _ _ _) _) _ _ _)); unfold LHold; (refine Tuple_ ?_)) | ((with_reducible show LHold (wpAny _ _ (eval (PySem.Expr.List [_, _, _] _) _) _ _ _)); unfold LHold; refine List_ ?_) | ((with_reducible show LHold (wpAny _ _ (newTuple _) _ _ _)); unfold LHold; (k_dflt (refine' kup_newTuple ?F ?N ?_ ?z; (case F => k_asm); (case N => k_asm); (case z => kmk_size))); intro D' h' F' N' l1; (clear l1); (try k_sweep); (try dsimp only))); (k_steps; repeat' ((first | (k_dflt (refine' TellT.useP (octZ _ _ _ _ _ ?q1 ?q2 ?q3 ?q4) ?B ?F ?N ?XB ?TB ?D ?hk ?hd ?hu ?hp ?_; (case B => k_asm); (case F => k_asm); (case N => k_asm); (case XB => k_asm); (case TB => k_asm); (case D => k_asm); (case hk => exact rfl); (case hd => first | exact roomD (by assumption) (by decide) | ((try dsimp only [ctx]); omega)); (case hu => first | exact roomC (by assumption) (by decide) | exact roomU (by assumption) (by decide) | ((try dsimp only [ctx]); omega)); (case hp => first | trivial | assumption | (exact sl_news (by k_asm) (by k_mem) (by assumption))); (case q1 => assumption); (case q2 => assumption); (case q3 => assumption); (case q4 => assumption); k_whole); intro h9 tk9 g9 a9 c9 t9 T9 F9 N9b q9 B9 X9 TT9 D9; (dsimp only [AllNe] at q9); (try k_sweep); (try dsimp only)) | (k_dflt (refine' TellC.useI (scoop _ _ _ _ _ _ _ _ ?q1 ?q2 ?q3 ?q4) ?B ?F ?N ?hm ?XB ?TB ?hk ?hd ?hu ?hp ?U ?_; (case B => k_asm); (case F => k_asm); (case N => k_asm); (case hm => k_mem); (case XB => k_asm); (case TB => k_asm); (case hk => exact rfl); (case hd => first | exact roomD (by assumption) (by decide) | ((try dsimp only [ctx]); omega)); (case hu => first | exact roomC (by assumption) (by decide) | exact roomU (by assumption) (by decide) | ((try dsimp only [ctx]); omega)); (case hp => first | trivial | assumption | (exact ⟨⟨_, _, _, News.get (by k_asm) (by k_mem)⟩, SL.up (by k_asm) (by assumption), by assumption⟩)); (case U => intro _ _ _; k_upd); (case q1 => first | assumption | omega); (case q2 => first | assumption | omega); (case q3 => decide); (case q4 => assumption); k_whole); intro h9 tk9 z9 t9 tb9 ts9 nb9 lo9 hi9 F9 N9b; (try k_sweep); (try dsimp only))); k_steps)))
  unfold LHold
  rename Fr _ _ _ _ => F4
  rename News _ _ _ _ => N4
  have N5 := news_sub (small := [(b, _), (r, W.listOf vs1.toArray n2)]) N4 ⟨by k_mem, by k_mem, trivial⟩
  have hb0 : ∀ p ∈ [(r, W.listOf vs1.toArray n2)], p.1 ≠ b := fun p hp => by rw [List.mem_singleton.mp hp]; exact hrb
  have hA0 : OctVals [(r, W.listOf vs1.toArray n2)] [] := OctVals.nil
  clear N4
  refine List_ ?_
  (k_steps; repeat' ((first | (k_dflt (refine' TellT.useP (octZ _ _ _ _ _ ?q1 ?q2 ?q3 ?q4) ?B ?F ?N ?XB ?TB ?D ?hk ?hd ?hu ?hp ?_; (case B => k_asm); (case F => k_asm); (case N => k_asm); (case XB => k_asm); (case TB => k_asm); (case D => k_asm); (case hk => exact rfl); (case hd => first | exact roomD (by assumption) (by decide) | ((try dsimp only [ctx]); omega)); (case hu => first | exact roomC (by assumption) (by decide) | exact roomU (by assumption) (by decide) | ((try dsimp only [ctx]); omega)); (case hp => first | trivial | assumption | (exact sl_news (by k_asm) (by k_mem) (by assumption))); (case q1 => assumption); (case q2 => assumption); (case q3 => assumption); (case q4 => assumption); k_whole); intro h9 tk9 g9 a9 c9 t9 T9 F9 N9b q9 B9 X9 TT9 D9; (dsimp only [AllNe] at q9); (try k_sweep); (try dsimp only)) | (k_dflt (refine' TellC.useI (scoop _ _ _ _ _ _ _ _ ?q1 ?q2 ?q3 ?q4) ?B ?F ?N ?hm ?XB ?TB ?hk ?hd ?hu ?hp ?U ?_; (case B => k_asm); (case F => k_asm); (case N => k_asm); (case hm => k_mem); (case XB => k_asm); (case TB => k_asm); (case hk => exact rfl); (case hd => first | exact roomD (by assumption) (by decide) | ((try dsimp only [ctx]); omega)); (case hu => first | exact roomC (by assumption) (by decide) | exact roomU (by assumption) (by decide) | ((try dsimp only [ctx]); omega)); (case hp => first | trivial | assumption | (exact ⟨⟨_, _, _, News.get (by k_asm) (by k_mem)⟩, SL.up (by k_asm) (by assumption), by assumption⟩)); (case U => intro _ _ _; k_upd); (case q1 => first | assumption | omega); (case q2 => first | assumption | omega); (case q3 => decide); (case q4 => assumption); k_whole); intro h9 tk9 z9 t9 tb9 ts9 nb9 lo9 hi9 F9 N9b; (try k_sweep); (try dsimp only))); k_steps))
  repeat' ((first | ((with_reducible show LHold (wpAny _ _ (eval (PySem.Expr.Tuple [PySem.Expr.List _ _, _] _ _) _) _ _ _)); (refine' litPair (b := b) (r := r) (by k_asm) (by k_asm) (by rfl) ⟨by decide, by decide, by decide, by decide +kernel⟩ (by assumption) (by assumption) ?_); intro D' h' tk' ex' F' N' hb' hA'; (try k_sweep); (try dsimp only)) | ((with_reducible show LHold (wpAny _ _ (eval (PySem.Expr.Tuple _ _ _) _) _ _ _)); unfold LHold; (refine Tuple_ ?_)) | ((with_reducible show LHold (wpAny _ _ (eval (PySem.Expr.List _ _) _) _ _ _)); (refine' litList (by k_asm) (by k_asm) (by rfl) (by decide) ?_); intro D' h' vs' n' tk' hi' F' N' hf'; (try k_sweep); (try dsimp only)) | ((with_reducible show LHold (wpAny _ _ (newTuple _) _ _ _)); ((rename Fr _ _ _ _ => F9); (rename News _ _ _ _ => N9); refine' foldPair (b := b) (r := r) (pre := []) F9 N9 (.inr rfl) (by assumption) ?hne ⟨by decide, by decide, by decide, by decide +kernel⟩ (by assumption) (by assumption) ?_); (case hne => exact fun p hp => (nomatch hp)); intro D' h' ex' F' N' hb' hA'; (try k_sweep); (try dsimp only)) | ((with_reducible show LHold (wpAny _ _ (newTuple _) _ _ _)); ((rename Fr _ _ _ _ => F9); (rename News _ _ _ _ => N9); refine' foldPair (b := b) (r := r) (pre := [_]) F9 N9 (.inl (.head _)) (by assumption) ?hne ⟨by decide, by decide, by decide, by decide +kernel⟩ (by assumption) (by assumption) ?_); (case hne => (rename _ < _ ∧ _ => l9; exact fun p hp => by rw [List.mem_singleton.mp hp]; exact Nat.ne_of_gt l9.1)); intro D' h' ex' F' N' hb' hA'; (try k_sweep); (try dsimp only)) | ((with_reducible show LHold (wpAny _ _ (newTuple _) _ _ _)); ((rename Fr _ _ _ _ => F9); (rename News _ _ _ _ => N9); refine' foldPair (b := b) (r := r) (pre := [_, _]) F9 N9 (.inl (.head _)) (by assumption) ?hne ⟨by decide, by decide, by decide, by decide +kernel⟩ (by assumption) (by assumption) ?_); (case hne => (rename _ < _ ∧ _ => l9; exact fun p hp => by (rcases List.mem_cons.mp hp with rfl | hp); (exact Nat.ne_of_gt l9.2.1); (rw [List.mem_singleton.mp hp]; exact apart_get hf' (.head _)))); intro D' h' ex' F' N' hb' hA'; (try k_sweep); (try dsimp only))); (k_steps; repeat' ((first | (k_dflt (refine' TellT.useP (octZ _ _ _ _ _ ?q1 ?q2 ?q3 ?q4) ?B ?F ?N ?XB ?TB ?D ?hk ?hd ?hu ?hp ?_; (case B => k_asm); (case F => k_asm); (case N => k_asm); (case XB => k_asm); (case TB => k_asm); (case D => k_asm); (case hk => exact rfl); (case hd => first | exact roomD (by assumption) (by decide) | ((try dsimp only [ctx]); omega)); (case hu => first | exact roomC (by assumption) (by decide) | exact roomU (by assumption) (by decide) | ((try dsimp only [ctx]); omega)); (case hp => first | trivial | assumption | (exact sl_news (by k_asm) (by k_mem) (by assumption))); (case q1 => assumption); (case q2 => assumption); (case q3 => assumption); (case q4 => assumption); k_whole); intro h9 tk9 g9 a9 c9 t9 T9 F9 N9b q9 B9 X9 TT9 D9; (dsimp only [AllNe] at q9); (try k_sweep); (try dsimp only)) | (k_dflt (refine' TellC.useI (scoop _ _ _ _ _ _ _ _ ?q1 ?q2 ?q3 ?q4) ?B ?F ?N ?hm ?XB ?TB ?hk ?hd ?hu ?hp ?U ?_; (case B => k_asm); (case F => k_asm); (case N => k_asm); (case hm => k_mem); (case XB => k_asm); (case TB => k_asm); (case hk => exact rfl); (case hd => first | exact roomD (by assumption) (by decide) | ((try dsimp only [ctx]); omega)); (case hu => first | exact roomC (by assumption) (by decide) | exact roomU (by assumption) (by decide) | ((try dsimp only [ctx]); omega)); (case hp => first | trivial | assumption | (exact ⟨⟨_, _, _, News.get (by k_asm) (by k_mem)⟩, SL.up (by k_asm) (by assumption), by assumption⟩)); (case U => intro _ _ _; k_upd); (case q1 => first | assumption | omega); (case q2 => first | assumption | omega); (case q3 => decide); (case q4 => assumption); k_whole); intro h9 tk9 z9 t9 tb9 ts9 nb9 lo9 hi9 F9 N9b; (try k_sweep); (try dsimp only))); k_steps)))
  unfold FHold
  rename Fr _ _ _ _ => F3
  rename News _ _ _ _ => N3
  rename OctVals _ _ => A3
  rename 0 ≤ (_ : Int) => z0'
  rename (_ : Int) < 13 => z13
  refine' item_oct (b := b) N3 (.head _) ?hb ?hled A3 z0' z13 rfl ?_
  case hb => k_mem
  case hled => exact fun p hp => .tail _ (.tail _ hp)
  intro ad oc ws n m z tz ls N4 hia hle hby hnn hru
  clear N3 A3
  (k_steps; repeat' ((first | (k_dflt (refine' TellT.useP (octZ _ _ _ _ _ ?q1 ?q2 ?q3 ?q4) ?B ?F ?N ?XB ?TB ?D ?hk ?hd ?hu ?hp ?_; (case B => k_asm); (case F => k_asm); (case N => k_asm); (case XB => k_asm); (case TB => k_asm); (case D => k_asm); (case hk => exact rfl); (case hd => first | exact roomD (by assumption) (by decide) | ((try dsimp only [ctx]); omega)); (case hu => first | exact roomC (by assumption) (by decide) | exact roomU (by assumption) (by decide) | ((try dsimp only [ctx]); omega)); (case hp => first | trivial | assumption | (exact sl_news (by k_asm) (by k_mem) (by assumption))); (case q1 => assumption); (case q2 => assumption); (case q3 => assumption); (case q4 => assumption); k_whole); intro h9 tk9 g9 a9 c9 t9 T9 F9 N9b q9 B9 X9 TT9 D9; (dsimp only [AllNe] at q9); (try k_sweep); (try dsimp only)) | (k_dflt (refine' TellC.useI (scoop _ _ _ _ _ _ _ _ ?q1 ?q2 ?q3 ?q4) ?B ?F ?N ?hm ?XB ?TB ?hk ?hd ?hu ?hp ?U ?_; (case B => k_asm); (case F => k_asm); (case N => k_asm); (case hm => k_mem); (case XB => k_asm); (case TB => k_asm); (case hk => exact rfl); (case hd => first | exact roomD (by assumption) (by decide) | ((try dsimp only [ctx]); omega)); (case hu => first | exact roomC (by assumption) (by decide) | exact roomU (by assumption) (by decide) | ((try dsimp only [ctx]); omega)); (case hp => first | trivial | assumption | (exact ⟨⟨_, _, _, News.get (by k_asm) (by k_mem)⟩, SL.up (by k_asm) (by assumption), by assumption⟩)); (case U => intro _ _ _; k_upd); (case q1 => first | assumption | omega); (case q2 => first | assumption | omega); (case q3 => decide); (case q4 => assumption); k_whole); intro h9 tk9 z9 t9 tb9 ts9 nb9 lo9 hi9 F9 N9b; (try k_sweep); (try dsimp only))); k_steps))
  repeat' ((first | ((with_reducible show LHold (wpAny _ _ (eval (PySem.Expr.Tuple _ _ _) _) _ _ _)); unfold LHold; (refine Tuple_ ?_)) | ((with_reducible show LHold (wpAny _ _ (newTuple _) _ _ _)); unfold LHold; (k_dflt (refine' kup_newTuple ?F ?N ?_ ?z; (case F => k_asm); (case N => k_asm); (case z => kmk_size))); intro D' h' F' N' l1; (clear l1); (try k_sweep); (try dsimp only))); (k_steps; repeat' ((first | (k_dflt (refine' TellT.useP (octZ _ _ _ _ _ ?q1 ?q2 ?q3 ?q4) ?B ?F ?N ?XB ?TB ?D ?hk ?hd ?hu ?hp ?_; (case B => k_asm); (case F => k_asm); (case N => k_asm); (case XB => k_asm); (case TB => k_asm); (case D => k_asm); (case hk => exact rfl); (case hd => first | exact roomD (by assumption) (by decide) | ((try dsimp only [ctx]); omega)); (case hu => first | exact roomC (by assumption) (by decide) | exact roomU (by assumption) (by decide) | ((try dsimp only [ctx]); omega)); (case hp => first | trivial | assumption | (exact sl_news (by k_asm) (by k_mem) (by assumption))); (case q1 => assumption); (case q2 => assumption); (case q3 => assumption); (case q4 => assumption); k_whole); intro h9 tk9 g9 a9 c9 t9 T9 F9 N9b q9 B9 X9 TT9 D9; (dsimp only [AllNe] at q9); (try k_sweep); (try dsimp only)) | (k_dflt (refine' TellC.useI (scoop _ _ _ _ _ _ _ _ ?q1 ?q2 ?q3 ?q4) ?B ?F ?N ?hm ?XB ?TB ?hk ?hd ?hu ?hp ?U ?_; (case B => k_asm); (case F => k_asm); (case N => k_asm); (case hm => k_mem); (case XB => k_asm); (case TB => k_asm); (case hk => exact rfl); (case hd => first | exact roomD (by assumption) (by decide) | ((try dsimp only [ctx]); omega)); (case hu => first | exact roomC (by assumption) (by decide) | exact roomU (by assumption) (by decide) | ((try dsimp only [ctx]); omega)); (case hp => first | trivial | assumption | (exact ⟨⟨_, _, _, News.get (by k_asm) (by k_mem)⟩, SL.up (by k_asm) (by assumption), by assumption⟩)); (case U => intro _ _ _; k_upd); (case q1 => first | assumption | omega); (case q2 => first | assumption | omega); (case q3 => decide); (case q4 => assumption); k_whole); intro h9 tk9 z9 t9 tb9 ts9 nb9 lo9 hi9 F9 N9b; (try k_sweep); (try dsimp only))); k_steps)))
  unfold LeaveP
  dsimp only
  try rw [beq_self_eq_true]
  refine' ret _ _ _ (StaysB.of (by assumption) hbF (Fr.keep (by k_asm))) ⟨⟨k + 1, by omega, by omega, _, _, _, News.get (by k_asm) ?hm⟩, rfl⟩
  case hm => k_mem
end
end Mine
/-! T40 -/
namespace Mine
theorem start_T40 : True := by
  w_top off
  trivial
abbrev gapOf (z : Int) : Str := Txt.mul (Str.ofString " ") z
theorem four {z : Int} (h0 : 0 ≤ z) (h1 : z < 4) : z = 0 ∨ z = 1 ∨ z = 2 ∨ z = 3 := by omega
def RowFacts (x : Str) (hf : List Nat) (n : Nat) (rest : List Nat) : Prop := x.length ≤ 1000 ∧ headFigs x.cps.toList = hf ∧ runE isBlk x.cps.toList 0 = n ∧ x.cps.toList.drop (if hf = [] then n else runE isBlk x.cps.toList (n + hf.length)) = rest
theorem gap_len {z : Int} (h0 : 0 ≤ z) (h1 : z < 4) : (gapOf z).length = z.toNat := by
  rcases four h0 h1 with rfl | rfl | rfl | rfl <;> decide +kernel
theorem factsA {z : Int} (h0 : 0 ≤ z) (h1 : z < 4) : RowFacts (gapOf z ++ "65529 X") [54, 53, 53, 50, 57] z.toNat [88] := by
  unfold RowFacts
  rcases four h0 h1 with rfl | rfl | rfl | rfl <;> decide +kernel
theorem factsB {z : Int} (h0 : 0 ≤ z) (h1 : z < 4) : RowFacts (gapOf z ++ "X 1") [] z.toNat [88, 32, 49] := by
  unfold RowFacts
  rcases four h0 h1 with rfl | rfl | rfl | rfl <;> decide +kernel
theorem factsC {z : Int} (h0 : 0 ≤ z) (h1 : z < 4) : RowFacts (gapOf z ++ "00010A") [48, 48, 48, 49, 48] z.toNat [65] := by
  unfold RowFacts
  rcases four h0 h1 with rfl | rfl | rfl | rfl <;> decide +kernel
theorem factsD {z : Int} (h0 : 0 ≤ z) (h1 : z < 4) : RowFacts (gapOf z ++ "65530 X") [54, 53, 53, 51, 48] z.toNat [88] := by
  unfold RowFacts
  rcases four h0 h1 with rfl | rfl | rfl | rfl <;> decide +kernel
theorem factsE {z : Int} (h0 : 0 ≤ z) (h1 : z < 4) : RowFacts (gapOf z ++ "100000") [49, 48, 48, 48, 48, 48] z.toNat [] := by
  unfold RowFacts
  rcases four h0 h1 with rfl | rfl | rfl | rfl <;> decide +kernel
theorem factsF {z : Int} (h0 : 0 ≤ z) (h1 : z < 4) : RowFacts (gapOf z ++ "000010 A") [48, 48, 48, 48, 49, 48] z.toNat [65] := by
  unfold RowFacts
  rcases four h0 h1 with rfl | rfl | rfl | rfl <;> decide +kernel
theorem splitNum (w : World) (x : Str) (tr : Tok) {hf : List Nat} {n : Nat} {rest : List Nat} {v y : _} (F : RowFacts x hf n rest) (h1 : hf ≠ []) (h2 : hf.length ≤ 5) (h3 : val hf ≤ 65529) (hv : val hf = v) (hy : (⟨rest.toArray⟩ : Str) = y) :
    Tell w 40 200 [.str x tr] (fun _ => True) (TwoRet (fun u => ∃ t, u = .int v t) (fun u => ∃ t, u = .str y t)) (fun _ _ => False) := by
  obtain ⟨f1, f2, f3, f4⟩ := F
  refine (splitNumber w x tr f1).mono (fun g h u R => ?_) fun c u R => ?_
  · rcases R with ⟨r1, _⟩ | ⟨_, _, _, r4⟩
    · exact absurd (f2.symm.trans r1) h1
    · rw [f2, f3] at r4
      rw [if_neg h1] at f4
      rw [f4, hv, hy] at r4
      exact r4
  · obtain ⟨_, _, _, r⟩ := R
    rw [f2] at r
    rcases r with r | r <;> omega
theorem splitNone (w : World) (x : Str) (tr : Tok) {n : Nat} {rest : List Nat} {y : Str} (F : RowFacts x [] n rest) (hy : (⟨rest.toArray⟩ : Str) = y) :
    Tell w 40 200 [.str x tr] (fun _ => True) (TwoRet (· = .none) (fun u => ∃ t, u = .str y t)) (fun _ _ => False) := by
  obtain ⟨f1, f2, f3, f4⟩ := F
  refine (splitNumber w x tr f1).mono (fun g h u R => ?_) fun c u R => ?_
  · rcases R with ⟨_, r⟩ | ⟨r, _⟩
    · rw [f3] at r
      rw [if_pos rfl] at f4
      rw [f4, hy] at r
      exact r
    · exact absurd f2 r
  · obtain ⟨_, _, r, _⟩ := R
    exact absurd f2 r
theorem lineBad (w : World) (x : Str) (tr tw : Tok) {hf : List Nat} {n : Nat} {rest : List Nat} (F : RowFacts x hf n rest) (h1 : hf ≠ []) (h2 : 5 < hf.length ∨ 65529 < val hf) :
    TellT w 80 277 [.str "line" tw, .str x tr] (fun _ => True) (TupRet "SN" (n : Int)) := by
  obtain ⟨f1, f2, f3, f4⟩ := F
  have := lineSome w x tr tw f1 (by rw [f2]; exact h1) (by rw [f2]; exact h2)
  rwa [f3] at this
theorem lineGap (w : World) (x : Str) (tr tw : Tok) {z : Int} {hf : List Nat} {rest : List Nat} (h0 : 0 ≤ z) (h4 : z < 4) (F : RowFacts x hf z.toNat rest) (h1 : hf ≠ []) (h2 : 5 < hf.length ∨ 65529 < val hf) :
    TellT w 80 277 [.str "line" tw, .str x tr] (fun _ => True) (TupRet "SN" (((gapOf z).length : Nat) : Int)) := by
  have := lineBad w x tr tw F h1 h2
  rwa [← gap_len h0 h4] at this
theorem headTail : Tail [123] (Str.ofString "A  {").cps.toList := by
  have e : (Str.ofString "A  {").cps.toList = [65] ++ 32 :: (List.replicate 1 32 ++ [123]) := by decide +kernel
  rw [e]
  exact .piece 1 (by decide) .bad
theorem headSome (w : World) (tr tw : Tok) : TellT w 80 277 [.str "tokens" tw, .str "A  {" tr] (fun _ => True) (TupRet "SN" 3) := by
  have := tokSome w "A  {" tr tw [123] "SN" 0 (by decide +kernel) (by unfold Low; decide +kernel) (by decide +kernel) headTail
  have e : (((Str.ofString "A  {").length - [123].length + 0 : Nat) : Int) = 3 := by decide +kernel
  rwa [e] at this
end Mine
/-! T41 -/
namespace Mine
theorem start_T41 : True := by
  w_top off
  trivial
theorem noFrames {g : Heap} : KtsDicts (([] : List Env).filterMap (·.frame)) g := fun a ha => nomatch ha
theorem start_of {g h : Heap} {L b sl : Addr} {all : List (Addr × Obj)} {t1 t2 : Tok} {S : Int} {ws : List Value} {ns : List Int} {n : Nat} (N : News g L h all) (hb : (b, W.listOf #[.ref sl, .int 0 t1, .int S t2] 0) ∈ all) (hs : (sl, W.listOf ws.toArray n) ∈ all) (hi : IntsAre ws ns) :
    News g L h [(b, W.listOf #[.ref sl, .int 0 t1, .int S t2] 0), (sl, W.listOf ws.toArray n)] ∧ SL h sl ns ∧ BinAt h b sl 0 S :=
  ⟨news_sub N ⟨hb, hs, trivial⟩, sl_news N hs hi, ⟨_, _, _, N.get hb⟩⟩
theorem noNews {g h : Heap} {L : Addr} : News g L h [] := fun p hp => nomatch hp
theorem fr_back {g g₁ h : Heap} {L : Addr} {m : Str → Option Value} (T : KtsTurn (([] : List Env).filterMap (·.frame)) g g₁) (F : Fr g₁ L h m) : Fr g L h m := ⟨F.ns, fun a o e => F.keep a o (T.other a o e (fun z => nomatch z)), by rw [← T.size]; exact F.above⟩
theorem news_back {g g₁ h : Heap} {L : Addr} {all : List (Addr × Obj)} (T : KtsTurn (([] : List Env).filterMap (·.frame)) g g₁) (N : News g₁ L h all) : News g L h all := fun p hp => ⟨(N p hp).1, (N p hp).2.1, turn_back T (N p hp).2.2⟩
section
variable {w : World} {k : Nat} {f b : Addr} {vs : List Value} {P : Heap → Prop} {mean : ExcName → Option Value} {mg mb : Str → Option Value} {dp un : Nat} {gd : Option (List Code)} {cn : Str} {cs : Scope} {L a : Addr} {ccd : Value} {cl : List (Str × Addr)}
  {A₀ : Around} {base g h : Heap} {m : Str → Option Value} {news : List (Addr × Obj)} {gs : Array GenState} {dr : Drawn} {tk : Nat} {os : OsState} {Q E : Value → Shared → Prop}
theorem lawTup {c : Str} {z : Int} (C : TellT w k f vs P (TupRet c z)) (B : Below A₀ base [] g) (F : Fr g L h m) (N : News g L h news) (XB : (_root_.MineH.hd.heap_1 w.params).In base) (TB : Top _root_.MineH.hd.view_39 (looseW _root_.MineH.hd.view_39 [Str.ofString "BasicError", Str.ofString "PAIRS"]) mean mg mb base) (hk : cs.kind = .function) (hd : dp + k < recursionLimit) (hu : un + 10 * k < cLine) (hp : P h)
    (ret : ∀ h' tk' ad tc t5, Fr g L h' m → News g L h' ((ad, { cls := .type "tuple", data := .seq #[.str c tc, .int z t5] }) :: news) → Q (.ref ad) ⟨h', gs, dr, tk', os⟩) :
    LHold (wpAny (model PySem.Challenge.rw_pq0143_01.prog w) (ctx dp un gd (envX cn cs L a ccd cl :: [])) (call (.ref f) vs) Q E ⟨h, gs, dr, tk, os⟩) :=
  mkL <| TellT.use C B F N XB TB noFrames hk hd hu hp fun v h' tk' g₁ T u F' N' _ _ _ _ r => by
    obtain ⟨ad, tc, t5, rfl, n, e⟩ := r
    exact ret h' tk' ad tc t5 (fr_back T F') (news_back T (News.more F' N' e (fun es n q => by cases q) (u _ n).1))
theorem lawN {X : Value} (C : TellT w k f vs P (fun _ _ v => v = X)) (B : Below A₀ base [] g) (F : Fr g L h m) (N : News g L h news) (XB : (_root_.MineH.hd.heap_1 w.params).In base) (TB : Top _root_.MineH.hd.view_39 (looseW _root_.MineH.hd.view_39 [Str.ofString "BasicError", Str.ofString "PAIRS"]) mean mg mb base) (hk : cs.kind = .function) (hd : dp + k < recursionLimit) (hu : un + 10 * k < cLine) (hp : P h)
    (ret : ∀ h' tk', Fr g L h' m → News g L h' news → Q X ⟨h', gs, dr, tk', os⟩) :
    LHold (wpAny (model PySem.Challenge.rw_pq0143_01.prog w) (ctx dp un gd (envX cn cs L a ccd cl :: [])) (call (.ref f) vs) Q E ⟨h, gs, dr, tk, os⟩) :=
  mkL <| TellT.use C B F N XB TB noFrames hk hd hu hp fun v h' tk' g₁ T u F' N' _ _ _ _ r => by
    subst r
    exact ret h' tk' (fr_back T F') (news_back T N')
theorem lawBin {sl : Addr} {ob : Obj} {lo hi s : Int} (C : TellB w k f b vs P (fun _ h' v => (∃ k', lo ≤ k' ∧ k' ≤ hi ∧ BinAt h' b sl k' s) ∧ v = .bool true)) (B : Below A₀ base [] g) (F : Fr g L h m) (N : News g L h ((b, ob) :: news)) (hne : ∀ p ∈ news, p.1 ≠ b) (XB : (_root_.MineH.hd.heap_1 w.params).In base) (TB : Top _root_.MineH.hd.view_39 (looseW _root_.MineH.hd.view_39 [Str.ofString "BasicError", Str.ofString "PAIRS"]) mean mg mb base) (hk : cs.kind = .function) (hd : dp + k < recursionLimit) (hu : un + 10 * k < cLine) (hp : P h)
    (ret : ∀ h' tk' k' tb ts nb, lo ≤ k' → k' ≤ hi → Fr g L h' m → News g L h' ((b, { cls := .type "list", data := .seq #[.ref sl, .int k' tb, .int s ts] nb }) :: news) → Q (.bool true) ⟨h', gs, dr, tk', os⟩) :
    LHold (wpAny (model PySem.Challenge.rw_pq0143_01.prog w) (ctx dp un gd (envX cn cs L a ccd cl :: [])) (call (.ref f) vs) Q E ⟨h, gs, dr, tk, os⟩) :=
  mkL <| TellB.use C B F N hne XB TB noFrames hk hd hu hp fun v h' tk' g₁ T u F' N' _ _ _ _ r => by
    obtain ⟨⟨k', l1, l2, tb, ts, nb, e⟩, rfl⟩ := r
    exact ret h' tk' k' tb ts nb l1 l2 (fr_back T F') (news_back T (N' _ e))
theorem lawScoop {sl : Addr} {ob : Obj} {k1 s many : Int} (C : TellC w k f b vs P (fun _ h' v => BinAt h' b sl k1 s ∧ ∃ z t, v = .int z t ∧ 0 ≤ z ∧ z < many)) (B : Below A₀ base [] g) (F : Fr g L h m) (N : News g L h news) (hm : (b, ob) ∈ news) (XB : (_root_.MineH.hd.heap_1 w.params).In base) (TB : Top _root_.MineH.hd.view_39 (looseW _root_.MineH.hd.view_39 [Str.ofString "BasicError", Str.ofString "PAIRS"]) mean mg mb base) (hk : cs.kind = .function) (hd : dp + k < recursionLimit) (hu : un + 10 * k < cLine) (hp : P h)
    (ret : ∀ h' tk' z t, 0 ≤ z → z < many → Fr g L h' m → News g L h' [] → Q (.int z t) ⟨h', gs, dr, tk', os⟩) :
    LHold (wpAny (model PySem.Challenge.rw_pq0143_01.prog w) (ctx dp un gd (envX cn cs L a ccd cl :: [])) (call (.ref f) vs) Q E ⟨h, gs, dr, tk, os⟩) :=
  mkL <| TellC.use C B F N hm XB TB hk hd hu hp fun v h' tk' u F' N' r => by
    obtain ⟨_, z, t, rfl, lo, hi⟩ := r
    exact ret h' tk' z t lo hi F' noNews
theorem lawTwo {p q : Tok → Value} (C : Tell w k f vs P (TwoRet (fun u => ∃ t, u = p t) (fun u => ∃ t, u = q t)) (fun _ _ => False)) (B : Below A₀ base [] g) (F : Fr g L h m) (XB : (_root_.MineH.hd.heap_1 w.params).In base) (TB : Top _root_.MineH.hd.view_39 (looseW _root_.MineH.hd.view_39 [Str.ofString "BasicError", Str.ofString "PAIRS"]) mean mg mb base) (hk : cs.kind = .function) (hd : dp + k < recursionLimit) (hu : un + 10 * k < cLine) (hp : P h)
    (ret : ∀ h' tk' ad t1 t2, Fr g L h' m → News g L h' [(ad, { cls := .type "tuple", data := .seq #[p t1, q t2] })] → Q (.ref ad) ⟨h', gs, dr, tk', os⟩) :
    LHold (wpAny (model PySem.Challenge.rw_pq0143_01.prog w) (ctx dp un gd (envX cn cs L a ccd cl :: [])) (call (.ref f) vs) Q E ⟨h, gs, dr, tk, os⟩) :=
  mkL <| Tell.useU C B F noNews XB TB hk hd hu hp (fun v h' tk' u F' N' r => by
    obtain ⟨ad, x, y, rfl, n, e, ⟨t1, rfl⟩, ⟨t2, rfl⟩⟩ := r
    exact ret h' tk' ad t1 t2 F' (News.more F' N' e (fun es n q => by cases q) (u _ n).1)) (fun _ _ _ _ _ z => z.elim)
end
theorem two_none {a : Value → Prop} {g h' : Heap} {v x : Value} (R : TwoRet (· = x) a g h' v) : TwoRet (fun u => ∃ _ : Tok, u = x) a g h' v := by
  obtain ⟨ad, y, z, r1, r2, r3, r4, r5⟩ := R
  exact ⟨ad, y, z, r1, r2, r3, ⟨default, r4⟩, r5⟩

local macro_rules | `(tactic| k_qdec) => `(tactic| decide +kernel)
theorem lawT : PySem.Challenge.rw_pq0143_01.Holds := by
  refine MineH.hdT ?_
  k_go0
  all_goals try k_fold
  (k_with_none; (k_with "ne" => (first | exact ne_gt (by with_reducible assumption) | exact ne_lt (by with_reducible assumption) | with_reducible assumption | exact Ne.symm (by with_reducible assumption) | exact ne_gt (And.left (by with_reducible assumption)) | exact ne_gt (And.left (And.right (by with_reducible assumption))) | exact ne_gt (And.right (by with_reducible assumption)) | exact ne_gt (And.right (And.right (by with_reducible assumption))) | exact ne_lt (And.left (by with_reducible assumption)) | exact ne_lt (And.left (And.right (by with_reducible assumption))) | exact ne_lt (And.right (by with_reducible assumption)) | exact ne_lt (And.right (And.right (by with_reducible assumption))))); (k_with "call ref" => refine holdL ?_); k_steps)
  unfold LHold
  k_fold
  refine holdL ?_
  rename Below _ _ _ _ => K0
  rename Frag.In _ _ => KX
  rename Top _ _ _ _ _ _ => T0
  rename Fr _ _ _ _ => F0
  rename News _ _ _ _ => N0
  refine' lawTup (headSome _ _ _) K0 F0 N0 KX T0 rfl ?hd ?hu trivial ?_
  case hd => decide
  case hu => decide
  intro h9 tk9 a9 c9 t9 F9 N9
  clear F0 N0
  have hS : ∀ x : Int, 0 ≤ x.fmod 43 ∧ x.fmod 43 ≤ 100 := fun x => by have := fmod_in x (b := 43) (by decide); omega
  k_steps
  rename List.length (List.take 40 _) = _ => hlen
  rename (_ < _ ∧ _ < _ ∧ _ < _) => o3
  have hsl := Nat.ne_of_lt o3.2.2
  rename Fr _ _ _ _ => F1
  rename News _ _ _ _ => N0
  obtain ⟨N1, hSL, hBin⟩ := start_of N0 (by k_mem) (by k_mem) (by assumption)
  refine' lawBin (rowRight _ _ _ 0 _ _ ⟨by decide, by decide⟩ (hS _) (show (List.take 40 _).length ≤ 100 by rw [hlen]; omega)) K0 F1 N1 ?hne KX T0 rfl ?hd ?hu ⟨by exact hBin, by exact hSL, by exact hsl⟩ ?_
  case hd => decide
  case hu => decide
  case hne => exact fun p hp => by rw [List.mem_singleton.mp hp]; exact hsl
  clear F1 N1 N0 hSL hBin
  intro h9 tk9 k9 tb9 ts9 nb9 lo9 hi9 F9 N9
  k_steps
  rename Fr _ _ _ _ => F1
  rename News _ _ _ _ => N1
  refine' lawBin (octetsRight _ _ _ k9 _ _ ⟨by omega, by omega⟩ (hS _) (show (List.take 40 _).length ≤ 100 by rw [hlen]; omega)) K0 F1 N1 ?hne KX T0 rfl ?hd ?hu ⟨⟨_, _, _, News.get N1 (by k_mem)⟩, sl_news N1 (by k_mem) (by assumption), by exact hsl⟩ ?_
  case hd => decide
  case hu => decide
  case hne => exact fun p hp => by rw [List.mem_singleton.mp hp]; exact hsl
  clear F1 N1
  intro h8 tk8 k8 tb8 ts8 nb8 lo8 hi8 F8 N8
  k_steps
  rename Fr _ _ _ _ => F1
  rename News _ _ _ _ => N1
  refine' lawN (longRight _) K0 F1 N1 KX T0 rfl ?hd ?hu trivial ?_
  case hd => decide
  case hu => decide
  clear F1 N1
  intro h7 tk7 F7 N7
  k_steps
  rename Fr _ _ _ _ => F1
  rename News _ _ _ _ => N1
  refine' lawScoop (scoop _ _ _ k8 _ 4 _ _ ⟨by omega, by omega⟩ (hS _) (by decide) (show (List.take 40 _).length ≤ 100 by rw [hlen]; omega)) K0 F1 N1 (.head _) KX T0 rfl ?hd ?hu ⟨⟨_, _, _, News.get N1 (by k_mem)⟩, sl_news N1 (by k_mem) (by assumption), by exact hsl⟩ ?_
  case hd => decide
  case hu => decide
  intro h6 tk6 z6 t6 lo6 hi6 F6 N6
  clear F1 N1 hlen lo8 hi8 lo9 hi9 hS o3 hsl
  repeat (rename List.length _ = _ => zz; clear zz)
  repeat (rename List.length _ ≤ _ => zz; clear zz)
  repeat (rename ¬ (_ < _) => zz; clear zz)
  repeat (rename _ ≠ _ ∧ _ => zz; clear zz)
  repeat (rename _ < _ ∧ _ => zz; clear zz)
  k_steps
  have hg : (Txt.mul (Str.ofString " ") z6).length ≤ 3 := by omega
  repeat (rename (0 ≤ z6 → _) => zz; clear zz)
  rename Fr _ _ _ _ => F1
  refine' lawTwo (splitNum _ _ _ (v := 65529) (y := "X") (factsA lo6 hi6) (by decide) (by decide) (by decide) (by decide) (by decide)) K0 F1 KX T0 rfl ?hd ?hu trivial ?_
  case hd => decide
  case hu => decide
  clear F1
  intro h5 tk5 a5 t5 t5' F5 N5
  repeat (rename (_ ≤ _ ∧ _ ≤ _) => zz; clear zz)
  k_steps
  rename Fr _ _ _ _ => F1
  refine' lawTwo (p := fun _ => .none) ((splitNone _ _ _ (y := "X 1") (factsB lo6 hi6) (by decide)).mono (fun _ _ _ R => two_none R) (fun _ _ z => z)) K0 F1 KX T0 rfl ?hd ?hu trivial ?_
  case hd => decide
  case hu => decide
  clear F1
  intro h5 tk5 a5 t5 t5' F5 N5
  repeat (rename (_ ≤ _ ∧ _ ≤ _) => zz; clear zz)
  k_steps
  rename Fr _ _ _ _ => F1
  rename News _ _ _ _ => N1
  refine' lawTup (lineGap _ _ _ _ lo6 hi6 (factsD lo6 hi6) (by decide) (.inr (by decide))) K0 F1 N1 KX T0 rfl ?hd ?hu trivial ?_
  case hd => decide
  case hu => decide
  clear F1 N1
  intro h9 tk9 a9 c9 t9 F9 N9
  repeat (rename (_ ≤ _ ∧ _ ≤ _) => zz; clear zz)
  k_steps
  rename Fr _ _ _ _ => F1
  rename News _ _ _ _ => N1
  refine' lawTup (lineGap _ _ _ _ lo6 hi6 (factsE lo6 hi6) (by decide) (.inl (by decide))) K0 F1 N1 KX T0 rfl ?hd ?hu trivial ?_
  case hd => decide
  case hu => decide
  clear F1 N1
  intro h9 tk9 a9 c9 t9 F9 N9
  repeat (rename (_ ≤ _ ∧ _ ≤ _) => zz; clear zz)
  k_steps
  rename Fr _ _ _ _ => F1
  rename News _ _ _ _ => N1
  refine' lawTup (lineGap _ _ _ _ lo6 hi6 (factsF lo6 hi6) (by decide) (.inl (by decide))) K0 F1 N1 KX T0 rfl ?hd ?hu trivial ?_
  case hd => decide
  case hu => decide
  clear F1 N1
  intro h9 tk9 a9 c9 t9 F9 N9
  repeat (rename (_ ≤ _ ∧ _ ≤ _) => zz; clear zz)
  k_steps
  rename Fr _ _ _ _ => F1
  refine' lawTwo (splitNum _ _ _ (v := 10) (y := "A") (factsC lo6 hi6) (by decide) (by decide) (by decide) (by decide) (by decide)) K0 F1 KX T0 rfl ?hd ?hu trivial ?_
  case hd => decide
  case hu => decide
  clear F1
  intro h5 tk5 a5 t5 t5' F5 N5
  repeat (rename (_ ≤ _ ∧ _ ≤ _) => zz; clear zz)
  k_steps
end Mine
theorem PySem.Challenge.cw_pq0143_01_holds : PySem.Challenge.rw_pq0143_01.Holds :=
  Mine.lawT
