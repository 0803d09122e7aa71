import PyProof.Rows.All
import Wide.All
import OpenK.AllK
import Wide.FinOn
import PySem.Challenge.RW_pb0263_01
open PySem PySem.W PyProof.Rows
set_option Elab.async false
set_option maxRecDepth 100000
set_option maxHeartbeats 8000000
namespace Mine
/-- the run over a tree of objects -/
noncomputable def goT (ok : Thread → Bool) (st : SharedT → Thread → Option (SharedT × Thread)) : Nat → SharedT → Thread → Option SharedT
  | 0, _, _ => none
  | n + 1, s, t => match through t with
    | true => some s
    | false => match ok t with
      | false => none
      | true => match st s t with
        | some (s', t') => goT ok st n s' t'
        | none => none
theorem goT_spec {tb : String → Option Builtin} {p : Program} {w : World} {n₀ : Nat} {ann : Option Value} : ∀ {n : Nat} {s s' : SharedT} {t : Thread}, goT (stepOk n₀ ann) (stepT (denote tb) p w) n s t = some s' → topRun tb p w n₀ ann n s.abs t = some s'.abs
  | 0, _, _, _, h => by cases h
  | n + 1, s, s', t, h => by
    unfold goT at h
    unfold topRun
    cases ht : through t with
    | true => rw [ht] at h; injection h with h; subst h; rfl
    | false =>
      rw [ht] at h
      dsimp only at h ⊢
      cases hk : stepOk n₀ ann t with
      | false => rw [hk] at h; cases h
      | true =>
        rw [hk] at h
        dsimp only at h ⊢
        cases hs : stepT (denote tb) p w s t with
        | none => rw [hs] at h; cases h
        | some r =>
          obtain ⟨s₁, t₁⟩ := r
          rw [hs] at h
          rw [stepT_spec hs]
          exact goT_spec h
/-- a list as a tree -/
noncomputable def treeOf (l : List Obj) : BT := (l.foldl (fun (p : BT × Nat) o => (p.1.ins p.2 o, p.2 + 1)) (BT.nil, 0)).1
noncomputable def shT (w : World) (os : OsState) : SharedT := ⟨treeOf (boot_heap w.params).objs.toList, (boot_heap w.params).objs.size, (boot_heap w.params).life, #[], boot_drawn, boot_toks, os⟩
theorem boot_tree (P : Params) : absHeap (treeOf (boot_heap P).objs.toList) (boot_heap P).objs.size (boot_heap P).life = boot_heap P := by kernel_rfl
theorem boot_meets (P : Params) : ((boot_heap P).isNs mainGlobals && (#[] : Array GenState).size == 0) = true := by kernel_rfl
theorem shT_abs (w : World) (os : OsState) : (shT w os).abs = ⟨boot_heap w.params, #[], boot_drawn, boot_toks, os⟩ := by
  show (⟨absHeap _ _ _, _, _, _, _⟩ : Shared) = _
  rw [shT, boot_tree]
/-- the program's run, over the library's quick twins -/
noncomputable def ranT (p : Program) (N : Nat) (w : World) (os : OsState) : Option SharedT :=
  goT (stepOk (boot_heap w.params).objs.size ((boot_heap w.params).nsMap mainGlobals "__annotations__")) (@PySem.W.Fast.tw10156331382660048174 (@PySem.W.Fast.tw11892475500146522536 @PySem.W.Fast.tw14364793385576792824) p w) N (shT w os) (topStub p)
theorem ranT_spec {p : Program} {N : Nat} {w : World} {os : OsState} {s : SharedT} (h : ranT p N w os = some s) : topRun treeTable p w (boot_heap w.params).objs.size ((boot_heap w.params).nsMap mainGlobals "__annotations__") N ⟨boot_heap w.params, #[], boot_drawn, boot_toks, os⟩ (topStub p) = some s.abs := by
  rw [← shT_abs]
  unfold ranT at h
  rw [← PySem.W.Fast.te10156331382660048174, ← PySem.W.Fast.te11892475500146522536, ← PySem.W.Fast.te14364793385576792824] at h
  exact goT_spec h
theorem left_tree {p q : Program} {loose : List Str} {Xt : Shared → Bool} {α : Type} {Yf : Shared → α} {Ya : World → α} {N : Nat} {g0 : Bool} (e : opening p = plainProg p.main.scope.names) (hN : Nat.ble 600 N = true) (f : ∀ s, fenceModules? p s = some s)
    (h1 : ∀ (w : World) (os : OsState), (ranT p N w os).map (fun s => staticsOk (importedModules p.main.body) (boot_heap w.params) s.abs.heap && namesBound p s.abs.heap && gensDone s.abs && laidKept (boot_heap w.params) s.abs.heap) = some true)
    (h2 : ∀ (w : World) (os : OsState), (ranT p N w os).map (fun s => @PySem.W.Fast.tw4187177175401517315 q loose (importedModules p.main.body) Xt g0 s.abs) = some (openGood q loose))
    (h3 : ∀ (w : World) (os : OsState), (ranT p N w os).map (fun s => Yf s.abs) = some (Ya w)) : LeftO p q loose Xt Yf Ya N g0 := fun w => by
  obtain ⟨⟨hp, gs, d, k, os⟩, e1, e2⟩ := Option.map_eq_some_iff.mp (boot_open e hN f w)
  simp only [Prod.mk.injEq] at e2
  obtain ⟨rfl, rfl, rfl, rfl⟩ := e2
  show ((fencedOpening treeTable p w N).bind (topFrom treeTable p w N)).map _ = _
  rw [e1]
  obtain ⟨s, hs, a1⟩ := Option.map_eq_some_iff.mp (h1 w os)
  have a2 := h2 w os
  have a3 := h3 w os
  rw [hs] at a2 a3
  injection a2 with a2
  injection a3 with a3
  dsimp only at a2 a3
  have t : topFrom treeTable p w N ⟨boot_heap w.params, #[], boot_drawn, boot_toks, os⟩ = some s.abs := by
    unfold topFrom
    dsimp only
    rw [boot_meets, ranT_spec hs]
    show (match staticsOk (importedModules p.main.body) (boot_heap w.params) s.abs.heap && namesBound p s.abs.heap && gensDone s.abs && laidKept (boot_heap w.params) s.abs.heap with | true => some s.abs | false => none) = _
    rw [a1]
  show (topFrom treeTable p w N ⟨boot_heap w.params, #[], boot_drawn, boot_toks, os⟩).map _ = _
  rw [t]
  show some (openSeen q loose (importedModules p.main.body) Xt g0 s.abs, Yf s.abs) = _
  rw [PySem.W.Fast.te4187177175401517315, a2, a3]
noncomputable def view : Program := { PySem.Challenge.pw_pb0263_01 with main := { PySem.Challenge.pw_pb0263_01.main with body := (((((PySem.Challenge.pw_pb0263_01.main.body.eraseIdx 44).eraseIdx 31).eraseIdx 8).eraseIdx 5).eraseIdx 3).eraseIdx 1 } }
theorem top1 (w : World) (os : OsState) : (ranT PySem.Challenge.pw_pb0263_01 6220 w os).map (fun s => staticsOk (importedModules PySem.Challenge.pw_pb0263_01.main.body) (boot_heap w.params) s.abs.heap && namesBound PySem.Challenge.pw_pb0263_01 s.abs.heap && gensDone s.abs && laidKept (boot_heap w.params) s.abs.heap) = some true := by kernel_rfl
theorem top2 (w : World) (os : OsState) : (ranT PySem.Challenge.pw_pb0263_01 6220 w os).map (fun s => @PySem.W.Fast.tw4187177175401517315 view [Str.ofString "decimal", Str.ofString "LedgerError"] (importedModules PySem.Challenge.pw_pb0263_01.main.body) (fun s => xlAt view [] s && recOk (RowW.records (OpenRow.toRowW (OpenLaw.row PySem.Challenge.rw_pb0263_01))) s) true s.abs) = some (openGood view [Str.ofString "decimal", Str.ofString "LedgerError"]) := by kernel_rfl
local macro_rules | `(tactic| o_law) => `(tactic| refine holds_law (by decide +kernel) fun said => ?_)
local macro_rules | `(tactic| o_head $H) => `(tactic| (refine holds_open (q := view) (loose := [Str.ofString "decimal", Str.ofString "LedgerError"]) (Xt := fun s => xlAt view [] s && recOk (RowW.records (OpenRow.toRowW (OpenLaw.row PySem.Challenge.rw_pb0263_01))) s) (XP := XL view []) (Yf := Hook.obs $H) (Ya := Hook.val $H) (YP := Hook.says $H) (N := 6220) ?hl (Hook.of $H) (Hook.keeps $H) (fun s e => xl_of s (Bool.and_eq_true_iff.mp e).1) XL.keeps (by rfl) (by rfl) (by rfl) (fun s e => recFacts_of (Bool.and_eq_true_iff.mp e).2) (by rfl) (by assumption) (by decide +kernel) ⟨rfl, rfl, rfl, rfl, rfl, by decide +kernel⟩ ?hw ?hc; (case hl => refine left_tree (by kernel_rfl) (by decide +kernel) (fun s => by kernel_rfl) ?h1 ?h2 ?h3; (case h1 => exact top1); (case h2 => exact top2); (case h3 => intro w os; kernel_rfl))))
open_top hd for PySem.Challenge.rw_pb0263_01
end Mine
theorem Mine.walk_plain : True := by w_top off; trivial
set_option compiler.extract_closed false
namespace Mine
open PySem.Spec PySem.Calls
set_option maxHeartbeats 8000000
section Pre_part
/-- a list of statements: the count of names is let go, and what follows bears a name -/
theorem cons_q {M : Model} {A : Around} {E : Value → Shared → Prop} {hp : Heap} {gs : Array GenState} {dr : Drawn} {tk : Nat} {os : OsState} {st : Stmt} {rest : List Stmt} {env : Env} {Q : Flow → Shared → Prop}
    (h : ∀ t : Nat, let K : Flow → Shared → Prop := fun f s' => match f with | .next => wpAny M A (execs rest env) Q E s' | f => Q f s'
      wpAny M A (exec st env) K E ⟨hp, gs, dr, t, os⟩) : wpAny M A (execs (st :: rest) env) Q E ⟨hp, gs, dr, tk, os⟩ := wpAny_execs_cons (h tk)
theorem if_q {M : Model} {A : Around} {E : Value → Shared → Prop} {s : Shared} {test : Expr} {body orelse : List Stmt} {pos : Pos} {env : Env} {Q : Flow → Shared → Prop}
    (h : let K : Bool → Shared → Prop := fun b s₂ => if b then wpAny M A (execs body env) Q E s₂ else wpAny M A (execs orelse env) Q E s₂
      wpAny M A (isTrue test env (eval test env)) K E s) : wpAny M A (exec (.If test body orelse pos) env) Q E s := wpAny_If h
/-- a name is set: the frame's map bears a name -/
theorem storeX_K {M : Model} {A : Around} {E : Value → Shared → Prop} {hp : Heap} {gs : Array GenState} {dr : Drawn} {tk : Nat} {os : OsState} {h₀ : Heap} {L a : Addr} {m : Str → Option Value} {cn : Str} {cs : Scope} {ccd : Value} {cl : List (Str × Addr)} {x : Str} {v : Value} {news : List (Addr × Obj)} {Q : Unit → Shared → Prop}
    (F : Fr h₀ L hp m) (N : News h₀ L hp news)
    (h : let m' : Str → Option Value := fun y => if y = x then some v else m y
      ∀ h' t, Fr h₀ L h' m' → News h₀ L h' news → Q () ⟨h', gs, dr, t, os⟩)
    (hk : cs.kind = .function := by rfl) (hx : (envX cn cs L a ccd cl).kindOf x = some .local := by rfl) : wpAny M A (storeName (envX cn cs L a ccd cl) x v) Q E ⟨hp, gs, dr, tk, os⟩ :=
  storeX_L F N (fun h' F' N' => h h' _ F' N') hk hx
theorem wp_named {M : Model} {A : Around} {E : Value → Shared → Prop} {s : Shared} {body : List Stmt} {env : Env} {Q : Flow → Shared → Prop} (k : let A' : Around := A; let env' : Env := env; wpAny M A' (execs body env') Q E s) : wpAny M A (execs body env) Q E s := k
theorem str_c {M : Model} {A : Around} {E : Value → Shared → Prop} {hp : Heap} {gs : Array GenState} {dr : Drawn} {tk : Nat} {os : OsState} {env : Env} {x : Str} {k : Nat} {pos : Pos} {Q : Value → Shared → Prop} (h : Q (.str x tk) ⟨hp, gs, dr, tk + 1, os⟩) : wpAny M A (eval (.Constant (.str x) k pos) env) Q E ⟨hp, gs, dr, tk, os⟩ := fun _ _ _ => h
theorem int_c {M : Model} {A : Around} {E : Value → Shared → Prop} {hp : Heap} {gs : Array GenState} {dr : Drawn} {tk : Nat} {os : OsState} {env : Env} {i : Int} {k : Nat} {pos : Pos} {Q : Value → Shared → Prop} (h : Q (.int i tk) ⟨hp, gs, dr, tk + 1, os⟩) : wpAny M A (eval (.Constant (.int i) k pos) env) Q E ⟨hp, gs, dr, tk, os⟩ := fun _ _ _ => h
theorem get_c {prog : Program} {w : World} {A : Around} {E : Value → Shared → Prop} {hp : Heap} {gs : Array GenState} {dr : Drawn} {tk : Nat} {os : OsState} {K : Frag} {x C L : Addr} {n : Nat} {name : Str} {h₀ : Heap} {m : Str → Option Value} {es : List DictEntry} {ox : Obj} {v : Value} {expr : Bool} {Q : Value → Shared → Prop} {attr : Option Value} (F : Fr h₀ L hp m) (X₀ : K.In h₀) (I : InstAt hp x ox C (some (dictOf es n))) (hg : plainGet K C name = true) (hh : hasDictIn K C = true)
    (ha : findIn K (.ref C) name = some attr) (hn : noGet K attr = true) (hl : getL name es = some (some v)) (hv : handedIn v = true) (h : Q v ⟨hp, gs, dr, tk + 1, os⟩) :
    wpAny (model prog w) A (getAttr (.ref x) name expr) Q E ⟨hp, gs, dr, tk, os⟩ := get_own F X₀ I hg hh ha hn hl hv h
/-- a local name is read -/
theorem nm {M : Model} {A : Around} {E : Value → Shared → Prop} {s : Shared} {h₀ : Heap} {m : Str → Option Value} {env : Env} {x : Str} {v : Value} {pos : Pos} {Q : Value → Shared → Prop}
    (F : Fr h₀ env.locals s.heap m) (hv : m x = some v) (h : Q v s) (hk : (env.scope.kind == .function && env.kindOf x == some .local && !(x == ("__debug__" : Str))) = true := by rfl) : wpAny M A (eval (.Name x pos) env) Q E s := by
  simp only [Bool.and_eq_true, beq_iff_eq, Bool.not_eq_true'] at hk
  exact wpAny_Name (wpAny_loadName_local hk.1.1 hk.1.2 F.ns hv h) hk.2
theorem fr_named {h₀ h : Heap} {L : Addr} {m : Str → Option Value} {P : Prop} (F : Fr h₀ L h m) (k : let m' : Str → Option Value := m; Fr h₀ L h m' → P) : P := k F
theorem updF_upd {d : Addr} {o : Obj} : ∀ {l : List (Addr × Obj)} {g : Obj → List (Addr × Obj)}, UpdF d o l g → ∀ o', Upd d o o' l (g o')
  | _, _, .head h, _ => .head h
  | _, _, .tail h r, o' => .tail h (updF_upd r o')
theorem putL_new (name : Str) (H : Int) (k v : Value) : ∀ es : List DictEntry, getL name es = some none → putL name H k v es = es ++ [⟨H, k, v⟩] ∧ es.any (·.key.isStr name) = false
  | [], _ => ⟨rfl, rfl⟩
  | e :: r, h => by
    unfold getL at h
    rw [List.find?_cons] at h
    cases hk : e.key.isStr name with
    | true => rw [hk] at h; cases h
    | false =>
      rw [hk] at h
      dsimp only at h
      have h' : getL name r = some none := by
        unfold getL
        cases hf : r.find? (·.key.isStr name) with
        | some x => rw [hf] at h; cases h
        | none =>
          rw [hf] at h
          dsimp only at h ⊢
          rw [List.any_cons] at h
          cases ha : r.any (·.refKey) with
          | false => rfl
          | true => rw [ha, Bool.or_true] at h; cases h
      obtain ⟨i1, i2⟩ := putL_new name H k v r h'
      refine ⟨?_, ?_⟩
      · rw [putL, hk, i1]; rfl
      · rw [List.any_cons, hk, i2]; rfl
/-- an attribute is set for the first time: the dict's new entries bear a name -/
theorem set_new {prog : Program} {w : World} {A : Around} {E : Value → Shared → Prop} {hp : Heap} {gs : Array GenState} {dr : Drawn} {tk : Nat} {os : OsState} {h₀ : Heap} {L x C dx : Addr} {ox : Obj} {m : Str → Option Value} {K : Frag} {name : Str} {v : Value} {es : List DictEntry} {n : Nat} {news : List (Addr × Obj)} {g : Obj → List (Addr × Obj)} {Q : Unit → Shared → Prop}
    (F : Fr h₀ L hp m) (X₀ : K.In h₀) (N : News h₀ L hp news) (I : InstAt hp x ox C (some (dictOf es n))) (hd : ox.dict = some dx)
    (hs : findIn K (.ref C) "__setattr__" = some (some (.builtin "object.__setattr__"))) (hpl : plainOver K C = true) (ht : takerIn K C name = some none) (hh : hasDictIn K C = true) (hl : getL name es = some none)
    (U : UpdF dx (dictOf es n) news g) (hz : Nat.blt es.length 1000 = true)
    (h : ∀ (T t : Nat) (h' : Heap), let es' : List DictEntry := es ++ [⟨PyData.keyHash w.params name, .str name T, v⟩]
      Fr h₀ L h' m → News h₀ L h' (g (dictOf es' (n + 1))) → Q () ⟨h', gs, dr, t, os⟩) :
    wpAny (model prog w) A (setAttr (.ref x) name v) Q E ⟨hp, gs, dr, tk, os⟩ := by
  obtain ⟨h1, h2⟩ := putL_new name (PyData.keyHash w.params name) (.str name (tk + 1)) v es hl
  refine set_dict F X₀ N I hd hs hpl ht hh (by rw [hl]; rfl) (es' := es ++ [⟨PyData.keyHash w.params name, .str name (tk + 1), v⟩]) (n' := n + 1) (by rw [h1, putN, h2]; rfl) (updF_upd U _) ?_ (fun h' => h _ _ h')
  rw [List.length_append]
  exact Nat.le_of_ble_eq_true hz
end Pre_part
local macro_rules | `(tactic| walk_at "execs cons") => `(tactic| ((try k_fold); first | (refine cons_q ?_; intro _ _) | (refine wpAny_execs_cons ?_; k_fold)))
local macro_rules | `(tactic| walk_at "exec If") => `(tactic| (refine if_q ?_; intro _))
local macro_rules | `(tactic| walk_at "storeName") => `(tactic| (k_here; k_dflt (refine' storeX_K ?F ?N ?_ ?a ?b; (case F => k_asm); (case N => k_asm); (case a => rfl); (case b => rfl); k_whole; intro m' h' t' F' N'; (try k_sweep))))
local macro_rules | `(tactic| walk_at "eval Name") => `(tactic| (k_here; k_dflt (refine' nm ?F ?v ?_ ?a; (case F => k_asm); (case a => rfl); (case v => rfl); k_whole)))
local macro_rules | `(tactic| walk_at "setAttr ref") => `(tactic| (k_here; k_dflt (refine' set_new ?k1 ?k2 ?k3 ?k4 ?k5 ?k6 ?k7 ?k8 ?k9 ?l ?k10 ?z ?_; (case k1 => k_asm); (case k2 => k_asm); (case k3 => k_asm); (case k4 => k_inst); (case k5 => exact rfl); (case k6 => k_is); (case k7 => k_is); (case k8 => k_is); (case k9 => k_is); (case l => k_get); (case k10 => k_updF); (case z => exact rfl); k_whole; intro T' t' h' es' F' N'; (try dsimp only at N'); (try k_sweep))))
local macro_rules | `(tactic| walk_at "eval Constant int") => `(tactic| refine int_c ?_)
local macro_rules | `(tactic| walk_at "eval Constant str") => `(tactic| refine str_c ?_)
local macro_rules | `(tactic| omega) => `(tactic| first | lia | omega +splitMinMax)
local macro_rules | `(tactic| k_units) => `(tactic| ((try simp only [units_in1, units_deeper, Around.mark_units, units_caller]); (try dsimp +zetaDelta only [ktrTop]); omega))
local macro_rules | `(tactic| k_room) => `(tactic| ((try simp only [depth_mark, depth_under_make, depth_under_kw, depth_in1, depth_deeper, depth_caller]); (try dsimp +zetaDelta only [ktrTop]); omega))
local macro_rules | `(tactic| k_all) => `(tactic| with_reducible assumption)
local macro_rules | `(tactic| ktr_unf) => `(tactic| ((try dsimp only); (try k_fold)))
section Base_part
local macro_rules | `(tactic| walk_at "no key 0") => `(tactic| fail)
set_option maxRecDepth 100000
set_option maxHeartbeats 8000000
/-- what a call keeps: a frame's facts go over to a heap that keeps all -/
theorem fr_keeps {h₀ h h' : Heap} {L : Addr} {m : Str → Option Value} (F : Fr h₀ L h m) (k : h.StaysIn h') : Fr h₀ L h' m :=
  ⟨F.ns.keeps k, fun b o e => k b o (F.keep b o e), F.above⟩
theorem news_keeps {h₀ h h' : Heap} {L : Addr} {news : List (Addr × Obj)} (N : News h₀ L h news) (k : h.StaysIn h') : News h₀ L h' news :=
  fun p hp => ⟨k _ _ (N p hp).1, (N p hp).2⟩
noncomputable abbrev TopL (mean : ExcName → Option Value) (mg mb : Str → Option Value) (h : Heap) : Prop :=
  Top Mine.view (looseW Mine.view [Str.ofString "decimal", Str.ofString "LedgerError"]) mean mg mb h
/-- objects that a call has made -/
noncomputable def Made (h h' : Heap) (new : List (Addr × Obj)) : Prop := ∀ p ∈ new, h'.get? p.1 = some p.2 ∧ h.get? p.1 = none
theorem off1_of {a : Addr} {l : List (Addr × Obj)} (h : ∀ q ∈ l, q.1 ≠ a) : LCg.Off1 a l := by
  induction l with
  | nil => trivial
  | cons p r ih => exact ⟨h p List.mem_cons_self, ih fun q hq => h q (List.mem_cons_of_mem _ hq)⟩
theorem off1_mem {a : Addr} {l : List (Addr × Obj)} (h : LCg.Off1 a l) : ∀ q ∈ l, q.1 ≠ a := by
  induction l with
  | nil => intro q hq; cases hq
  | cons p r ih =>
    intro q hq
    rcases List.mem_cons.mp hq with e | hq
    · rw [e]; exact h.1
    · exact ih h.2 q hq
/-- a call that keeps all that stood, and what it hands back -/
noncomputable def Pure (w : World) (d : Nat) (f : Addr) (vs : List Value) (h : Heap) (Post : Value → List (Addr × Obj) → Prop) : Prop :=
  ∀ (mean : ExcName → Option Value) (mg mb : Str → Option Value) (dp un : Nat) (gd : Option (List Code)) (cn : Str) (cs : Scope) (L a : Addr) (ccd : Value) (cl : List (Str × Addr)) (outer : List Env) (base : Heap) (s : Shared) (Q E : Value → Shared → Prop),
    s.heap = h → (Mine.hd.heap_1 w.params).In h → TopL mean mg mb h → Below (ktrTop dp un gd cn cs L a ccd cl outer) base (envX cn cs L a ccd cl :: outer) h → cs.kind = .function → dp + d < recursionLimit → un + 12 * d < cLine →
    (∀ v new h' tk', h.StaysIn h' → Made h h' new → Post v new → Q v { s with heap := h', toks := tk' }) →
    wpAny (model PySem.Challenge.rw_pb0263_01.row.prog w) (ktrTop dp un gd cn cs L a ccd cl outer) (call (.ref f) vs) Q E s
theorem Pure.use {w : World} {d : Nat} {f : Addr} {vs : List Value} {Post : Value → List (Addr × Obj) → Prop} {mean : ExcName → Option Value} {mg mb : Str → Option Value} {dp un : Nat} {gd : Option (List Code)} {cn : Str} {cs : Scope} {L a : Addr} {ccd : Value} {cl : List (Str × Addr)} {outer : List Env} {A₀ : Around} {base h₀ : Heap} {m : Str → Option Value} {news : List (Addr × Obj)} {s : Shared} {Q E : Value → Shared → Prop}
    (C : Pure w d f vs s.heap Post) (B : Below A₀ base outer h₀) (F : Fr h₀ L s.heap m) (X : (Mine.hd.heap_1 w.params).In h₀) (N : News h₀ L s.heap news) (T : TopL mean mg mb h₀) (hk : cs.kind = .function) (hd : dp + d < recursionLimit) (hu : un + 12 * d < cLine)
    (ret : ∀ v new h' tk', Fr h₀ L h' m → News h₀ L h' (new ++ news) → (∀ p ∈ new, LCg.Off1 p.1 news) → Post v new → Q v { s with heap := h', toks := tk' }) :
    wpAny (model PySem.Challenge.rw_pb0263_01.row.prog w) (ktrTop dp un gd cn cs L a ccd cl outer) (call (.ref f) vs) Q E s := by
  refine C mean mg mb dp un gd cn cs L a ccd cl outer base s Q E rfl (X.keeps F.keep) (T.keeps F.keep) ?_ hk hd hu fun v new h' tk' k M P => ?_
  · have B₁ := pushX (env := envX cn cs L a ccd cl) B F rfl hk
    exact ⟨rfl, B₁.stays, B₁.frames⟩
  · have hL : ∃ o, s.heap.get? L = some o := let ⟨o, _, _, e, _⟩ := F.ns; ⟨o, e⟩
    obtain ⟨oL, hL⟩ := hL
    refine ret v new h' tk' (fr_keeps F k) (fun p hp => ?_) (fun p hp => off1_of fun q hq e => ?_) P
    · rcases List.mem_append.mp hp with hp | hp
      · refine ⟨(M p hp).1, fun e => ?_, ?_⟩
        · have := (M p hp).2; rw [e, hL] at this; cases this
        · cases q : h₀.get? p.1 with
          | none => rfl
          | some o => have := F.keep _ _ q; rw [(M p hp).2] at this; cases this
      · exact news_keeps N k p hp
    · have := (N q hq).1; rw [e, (M p hp).2] at this; cases this
/-- how a def of the text's is entered: all that stood is the frame's base -/
theorem Pure.enter {w : World} {d : Nat} {vs : List Value} {h : Heap} {Post : Value → List (Addr × Obj) → Prop}
    {name qual : Str} {params : Arguments} {body : List Stmt} {scope : Scope} {dV kV doc pm cdv ct oc : Value} {an od : Option Addr} {osl : Array (Option Value)} {f : Addr} {binds : List (Str × Value)}
    (ho : (Mine.hd.heap_1 w.params).lookup f = some ⟨oc, od, .func (fnOf name qual params body scope dV kV doc pm an cdv ct), osl⟩) (hcd : codeIn (Mine.hd.heap_1 w.params) cdv qual = true)
    (hbind : bindArgs (fnOf name qual params body scope dV kV doc pm an cdv ct) ⟨vs, []⟩ = pure binds) (hloc : ∀ y ∈ binds, scope.names.lookup y.1 = some .local)
    (hd : 0 < d)
    (body_ : ∀ (mean : ExcName → Option Value) (mg mb : Str → Option Value) (dp un : Nat) (gd : Option (List Code)) (outer : List Env) (A₀ : Around) (base : Heap) (hp₁ : Heap) (gs₁ : Array GenState) (dr₁ : Drawn) (tk₁ : Nat) (os₁ : OsState) (L' : Addr) (Q : Value → Shared → Prop),
      let mF : Str → Option Value := fun y => binds.reverse.lookup y
      let AF : Around := ktrTop dp un gd qual scope L' f cdv [] outer
      let EF : Env := envOf qual scope L' f cdv
      Fr h L' hp₁ mF → News h L' hp₁ [] → Below A₀ base outer h → (Mine.hd.heap_1 w.params).In h → TopL mean mg mb h → dp + d < recursionLimit + 1 → un + 12 * d < cLine + 3 →
      (∀ v new h' tk' m', Fr h L' h' m' → News h L' h' new → Post v new → Q v ⟨h', gs₁, dr₁, tk', os₁⟩) →
      wpAny (model PySem.Challenge.rw_pb0263_01.row.prog w) AF (execs body EF) (fun fl s' => Q (match fl with | .ret v => v | _ => .none) s') (fun _ _ => False) ⟨hp₁, gs₁, dr₁, tk₁, os₁⟩)
    (hco : scope.isCoroutine = false := by rfl) (hgen : scope.isGenerator = false := by rfl) (hk : scope.kind = .function := by rfl)
    (hcell : ∀ x ∈ scope.names, x.2 ≠ .cell := by decide) : Pure w d f vs h Post := by
  intro mean mg mb dp un gd cn cs L a ccd cl outer base s Q E hs X T B hcs hdp hun ret
  subst hs
  refine wpAny_call ?_
  refine codeAny_call_def (fd := fnOf name qual params body scope dV kV doc pm an cdv ct) (body := body) (binds := binds) (by show dp < recursionLimit; omega) (X _ _ ho) rfl T.nolimit (codeRec_of X hcd) rfl (BindsTo.of_eq hbind) hcell hloc (fun h₁ hns hk₁ => ?_) hco hgen hk
  have F₁ : Fr s.heap s.heap.objs.size h₁ (fun y => binds.reverse.lookup y) := ⟨hns, hk₁, Nat.le_refl _⟩
  refine wpAny_mono (body_ mean mg mb (dp + 1) (un + 3) gd (envX cn cs L a ccd cl :: outer) _ base h₁ s.gens s.drawn (s.toks + binds.length) s.os s.heap.objs.size (fun v s' => Q v s') F₁ (fun p hp => nomatch hp) B X T (by omega) (by omega) fun v new h' tk' m' F' N' P => ?_) (fun fl s' hl => hl) fun _ _ x => x.elim
  exact ret v new h' tk' F'.keep (fun p hp => ⟨(N' p hp).1, (N' p hp).2.2⟩) P
end Base_part
section Loop_part
set_option maxRecDepth 100000
set_option maxHeartbeats 8000000
/-- a text by its code points -/
noncomputable def St (l : List Nat) : Str := ⟨l.toArray⟩
section
variable {prog : Program} {w : World} {A : Around} {E : Value → Shared → Prop} {s : Shared} {env : Env} {h₀ : Heap} {target : PySem.Expr} {body : List Stmt} {Q : Flow → Shared → Prop}
theorem unr_mono {L : Addr} {s₁ s₂ : Shared} {its : List (Addr × Obj)} {r r' : (Str → Option Value) → List (Addr × Obj) → Prop} {f : Flow} (hr : ∀ m n, r m n → r' m n) (h : UnrPostW h₀ L s₁ its r Q f s₂) : UnrPostW h₀ L s₁ its r' Q f s₂ := by
  cases f with
  | ret v => exact h
  | brk => exact h
  | next => obtain ⟨h', tk, m', n', a, b, c, d, e⟩ := h; exact ⟨h', tk, m', n', a, b, c, d, hr _ _ e⟩
  | cont => obtain ⟨h', tk, m', n', a, b, c, d, e⟩ := h; exact ⟨h', tk, m', n', a, b, c, d, hr _ _ e⟩
theorem allObj_mono {k k' : List (Addr × Obj) → Prop} : ∀ {ws : List (Addr × String)}, (∀ its, k its → k' its) → AllObj ws k → AllObj ws k'
  | [], hk, h => hk _ h
  | _ :: _, hk, h => fun o e => allObj_mono (fun its x => hk _ x) (h o e)
/-- one turn of a loop, and what holds behind it -/
noncomputable def Turn (prog : Program) (w : World) (A : Around) (E : Value → Shared → Prop) (h₀ : Heap) (env : Env) (target : PySem.Expr) (body : List Stmt) (Q : Flow → Shared → Prop) (s : Shared) (ws : List (Addr × String)) (keep : List (Addr × Obj)) (a : Itm) (m : Str → Option Value) (news : List (Addr × Obj)) (R : (Str → Option Value) → List (Addr × Obj) → Prop) : Prop :=
  ∀ v h tk, a.Is v h → Fr h₀ env.locals h m → AllObj ws (fun its => News h₀ env.locals h (its ++ news) →
      wpAny (model prog w) A (assign target env v) (fun _ s₂ => wpAny (model prog w) A (execs body env) (UnrPostW h₀ env.locals { s with heap := h, toks := tk } its (fun m' n' => SubL keep n' ∧ R m' n') Q) E s₂) E { s with heap := h, toks := tk })
/-- a loop of any length, by what holds of the items that are left -/
theorem rest_inv {ws : List (Addr × String)} {keep : List (Addr × Obj)} (J : List Itm → (Str → Option Value) → List (Addr × Obj) → Prop)
    (nil : ∀ m news h tk, J [] m news → Fr h₀ env.locals h m → News h₀ env.locals h news → Q .next { s with heap := h, toks := tk })
    (cons : ∀ a r m news, J (a :: r) m news → Turn prog w A E h₀ env target body Q s ws keep a m news (J r)) :
    ∀ xs m news, J xs m news → ItemsRest prog w A E h₀ env target body Q s ws keep xs m news
  | [], m, news, h => ItemsRest.zero (fun h' tk F N => nil m news h' tk h F N)
  | a :: r, m, news, h => by
    intro v h' tk hv F
    refine allObj_mono (fun its x N => ?_) (cons a r m news h v h' tk hv F)
    exact wpAny_mono (x N) (fun _ s₂ y => wpAny_mono y (fun f s₃ z => unr_mono (fun m' n' q => ⟨q.1, rest_inv J nil cons r m' n' q.2⟩) z) fun _ _ e => e) fun _ _ e => e
/-- the loop over a list that stood ahead of the frame -/
theorem base_turns {ax : Addr} {vs : List Value} {m₀ : Str → Option Value} {news : List (Addr × Obj)}
    (hh : A.handled = none) (F : Fr h₀ env.locals s.heap m₀) (N : News h₀ env.locals s.heap news) (hb : h₀.IsList ax vs.toArray)
    (rest₀ : ∀ I : Addr, (∀ p ∈ news, p.1 < I) → ItemsRest prog w A E h₀ env target body Q s [(I, "list_iterator")] [] (vs.map .val) m₀ news) :
    wpAny (model prog w) A (pyIter (.ref ax)) (fun it s₂ => TurnsAt prog w A h₀ env target body Q E it s₂) E s := by
  have hl : s.heap.IsList ax vs.toArray := hb.at fun o e => F.keep ax o e
  obtain ⟨ob, hob, _⟩ := id hb
  have hlt0 : ax < h₀.objs.size := Heap.lt_size hob
  have hlt : ax < s.heap.objs.size := let ⟨_, e, _⟩ := hl; Heap.lt_size e
  have hne : ax ≠ s.heap.objs.size := Nat.ne_of_lt hlt
  refine wpAny_pyIter_list hl ?_
  have R := rest₀ s.heap.objs.size fun p hp => Heap.lt_size (N p hp).1
  let J : Nat → (Str → Option Value) → List (Addr × Obj) → Prop := fun i m₁ news₁ => ItemsRest prog w A E h₀ env target body Q s [(s.heap.objs.size, "list_iterator")] [] ((vs.map .val).drop i) m₁ news₁
  refine ⟨_, _, _, vs.toArray.size, _, _, _, m₀, news, J, rfl, KTurns.ofWalks (Walks.list hh s.heap.objs.size ax hne vs.toArray) (fun i v s Q E st q => letGo_listiter st.1 q), ?_, ?_, ?_, ⟨⟨_, Heap.get?_push_size _ rfl, rfl, rfl⟩, hl.at fun o e => Heap.get?_push_of_some _ e⟩, F.push _, (fun p hp => ⟨Heap.get?_push_of_some _ (N p hp).1, (N p hp).2⟩), (by show ItemsRest _ _ _ _ _ _ _ _ _ _ _ _ _ _ _; rw [List.drop_zero]; exact R), ?_, ?_⟩
  · intro hI
    rcases List.mem_cons.mp hI with e | hI
    · exact absurd F.ns.lt (e ▸ Nat.lt_irrefl _)
    · have e := List.mem_singleton.mp hI
      exact absurd (Nat.lt_of_lt_of_le hlt0 F.above) (e ▸ Nat.lt_irrefl _)
  · intro b hb
    rw [List.mem_singleton.mp hb]
    exact next_is_new F
  · intro p hp hI
    exact absurd (Heap.lt_size (N p hp).1) ((List.mem_singleton.mp hI) ▸ Nat.lt_irrefl _)
  · intro i v m₁ news₁ h₁ tk₁ own hin hPi hJ hoff hown hget hall hst₁ F₁ N₁
    obtain ⟨⟨oI, hoI, hcI, _⟩, _⟩ := hst₁
    have hPi' : vs.toArray[i]? = some v := hPi
    have hv : vs[i]? = some v := by simpa using hPi'
    have hdrop : (vs.map Itm.val).drop i = .val v :: (vs.map Itm.val).drop (i + 1) := by
      have hlt' : i < (vs.map Itm.val).length := by simpa using hin
      rw [List.drop_eq_getElem_cons hlt']
      congr 1
      have hlt2 : i < vs.length := by simpa using hin
      have : vs[i] = v := Option.some.inj ((List.getElem?_eq_getElem hlt2).symm.trans hv)
      simp [this]
    have hJ' : ItemsRest prog w A E h₀ env target body Q s [(s.heap.objs.size, "list_iterator")] [] (.val v :: (vs.map Itm.val).drop (i + 1)) m₁ news₁ := by rw [← hdrop]; exact hJ
    have hI0 : h₀.get? s.heap.objs.size = none := next_is_new F
    have hIown : (s.heap.objs.size, oI) ∈ own := hall _ (List.mem_cons_self ..) hI0 _ hoI
    have N₂ : News h₀ env.locals h₁ ([(s.heap.objs.size, oI)] ++ news₁) := fun p hp => by
      rcases List.mem_append.mp hp with hp | hp
      · rw [List.mem_singleton.mp hp]; exact N₁ _ (List.mem_append_left _ hIown)
      · exact N₁ _ (List.mem_append_right _ hp)
    have fin : ∀ s₃, UnrEndW h₀ env.locals { s with heap := h₁, toks := tk₁ } [(s.heap.objs.size, oI)] (fun m' n' => SubL [] n' ∧ J (i + 1) m' n') s₃ →
        LoopStepU h₀ env.locals [s.heap.objs.size] own (J (i + 1)) { s with heap := h₁, toks := tk₁ } .next s₃ := by
      rintro s₃ ⟨h', tk, m', news', e, F', N', ho, _, r⟩
      refine ⟨rfl, h', tk, m', news', e, F', ?_, ?_, r⟩
      · rintro ⟨pa, po⟩ hp
        rcases List.mem_append.mp hp with hp | hp
        · have z := N₁ _ (List.mem_append_left _ hp)
          rcases List.mem_cons.mp (hown _ hp) with e1 | e1
          · have e1' : pa = s.heap.objs.size := e1
            subst e1'
            have : oI = po := Option.some.inj (hoI.symm.trans z.1)
            subst this
            exact N' _ (List.mem_append_left _ (List.mem_singleton.mpr rfl))
          · have e1' : pa = ax := List.mem_singleton.mp e1
            subst e1'
            have := z.2.2
            rw [hob] at this; cases this
        · exact N' _ (List.mem_append_right _ hp)
      · intro p hp hI
        exact ho p hp _ (List.mem_singleton.mpr rfl) (List.mem_singleton.mp hI)
    refine wpAny_mono ((hJ' v h₁ tk₁ rfl F₁) oI hcI N₂) (fun _ s₂ h₂ => wpAny_mono h₂ (fun f s₃ p => ?_) fun _ _ e => e) fun _ _ e => e
    cases f with
    | ret v => exact .ret p
    | brk => exact .brk p
    | next => exact .next (fin _ p)
    | cont => exact .cont (fin _ p)
  · intro h' tk m' news' F' N' _ hJ
    have hJ' : ItemsRest prog w A E h₀ env target body Q s [(s.heap.objs.size, "list_iterator")] [] ((vs.map Itm.val).drop vs.toArray.size) m' news' := hJ
    rw [List.drop_eq_nil_of_le (by simp)] at hJ'
    exact hJ' h' tk F' N'
end
/-- a frame's names behind a turn: those that are named, those that are forgotten, the rest as they were -/
theorem form {m' m₀ : Str → Option Value} {ps : List (Str × Value)} {stored : List Str} (h1 : ∀ p ∈ ps, m' p.1 = some p.2) (h2 : ∀ z, (∀ p ∈ ps, z ≠ p.1) → stored.contains z = false → m' z = m₀ z) :
    m' = kstB (fun z => if stored.contains z then m' z else m₀ z) ps := by
  funext z
  refine (kstB_eq h1 fun hn => ?_).symm
  cases h3 : stored.contains z with
  | true => simp
  | false => simp only [Bool.false_eq_true, if_false]; exact (h2 z hn h3).symm
theorem st_append (a b : List Nat) : St a ++ St b = St (a ++ b) := by
  show Str.append (St a) (St b) = _
  simp [Str.append, St]
theorem st_length (a : List Nat) : (St a).length = a.length := by simp [Str.length, St]
section
variable {prog : Program} {w : World} {A : Around} {E : Value → Shared → Prop} {s : Shared} {env : Env} {h₀ : Heap} {target : PySem.Expr} {body : List Stmt} {Q : Flow → Shared → Prop}
/-- a goal that the walk leaves as it is -/
structure Held (P : Prop) : Prop where
  out : P
/-- a loop by its letters: what names hold, what the ledger holds, what is left -/
theorem rest_loop {ws : List (Addr × String)} {keep : List (Addr × Obj)} {xs : List Itm} {m₀ : Str → Option Value} {news₀ : List (Addr × Obj)} {σ : Type} (ps : σ → List (Str × Value)) (Led : σ → List (Addr × Obj)) (stored : List Str) (R : List Itm → σ → Prop) (c₀ : σ)
    (hm : ∀ p ∈ ps c₀, m₀ p.1 = some p.2) (hn : news₀ = Led c₀) (hR : R xs c₀)
    (nil : ∀ (c : σ) (u : Str → Option Value) h tk, R [] c → Fr h₀ env.locals h (kstB (fun z => if stored.contains z then u z else m₀ z) (ps c)) → News h₀ env.locals h (Led c) → Q .next { s with heap := h, toks := tk })
    (cons : ∀ (c : σ) (u : Str → Option Value) a r, R (a :: r) c → Turn prog w A E h₀ env target body Q s ws keep a (kstB (fun z => if stored.contains z then u z else m₀ z) (ps c)) (Led c)
      (fun m' n' => Held (∃ c', (∀ p ∈ ps c', m' p.1 = some p.2) ∧ (∀ z, (∀ p ∈ ps c', z ≠ p.1) → stored.contains z = false → m' z = m₀ z) ∧ n' = Led c' ∧ R r c'))) :
    ItemsRest prog w A E h₀ env target body Q s ws keep xs m₀ news₀ := by
  refine rest_inv (fun xs m news => ∃ c, (∀ p ∈ ps c, m p.1 = some p.2) ∧ (∀ z, (∀ p ∈ ps c, z ≠ p.1) → stored.contains z = false → m z = m₀ z) ∧ news = Led c ∧ R xs c) ?_ ?_ xs m₀ news₀ ⟨c₀, hm, fun _ _ _ => rfl, hn, hR⟩
  · rintro m news h tk ⟨c, h1, h2, rfl, hR⟩ F N
    exact nil c m h tk hR (form h1 h2 ▸ F) N
  · rintro a r m news ⟨c, h1, h2, rfl, hR⟩
    have := cons c m a r hR
    rw [← form h1 h2] at this
    intro v h' tk hv F
    refine allObj_mono (fun its x N => ?_) (this v h' tk hv F)
    exact wpAny_mono (x N) (fun _ s₂ y => wpAny_mono y (fun f s₃ z => unr_mono (fun m' n' q => ⟨q.1, q.2.out⟩) z) fun _ _ e => e) fun _ _ e => e
end
section
variable {prog : Program} {w : World} {A : Around} {E : Value → Shared → Prop} {s : Shared}
theorem str_len_append (x y : Str) : (x ++ y).length = x.length + y.length := by
  show (Str.append x y).cps.size = _
  simp [Str.append, Str.length]
theorem add_S {x y : Str} {t u : Tok} {Q : Value → Shared → Prop} (hsz : x.length + y.length ≤ 1000) (h : ∀ t' k, Q (.str (x ++ y) t') { s with toks := k }) :
    wpAny (model prog w) A (binaryOp .Add (.str x t) (.str y u)) Q E s := PyProof.Rows.add_str h (by show _ ≤ 2 ^ 24; omega)
end
theorem lit_comma : Str.ofString "," = St [44] := by decide +kernel
theorem lit_none : Str.ofString "" = St [] := by decide +kernel
theorem lit_cents : Str.ofString ".99" = St [46, 57, 57] := by decide +kernel
theorem lit_9 : Str.ofString "9" = St [57] := by decide +kernel
theorem lit_Z : Str.ofString "Z" = St [90] := by decide +kernel
theorem lit_star : Str.ofString "*" = St [42] := by decide +kernel
theorem lit_dollar : Str.ofString "$" = St [36] := by decide +kernel
theorem lit_plus : Str.ofString "+" = St [43] := by decide +kernel
theorem lit_minus : Str.ofString "-" = St [45] := by decide +kernel
theorem lit_point : Str.ofString "." = St [46] := by decide +kernel
theorem lit_0 : Str.ofString "0" = St [48] := by decide +kernel
theorem lit_blank : Str.ofString " " = St [32] := by decide +kernel
theorem st_beq (a b : List Nat) : (St a == St b) = (a == b) := by
  rw [Bool.eq_iff_iff]; simp [St]
end Loop_part
section Txt2_part
local macro_rules | `(tactic| walk_at "no key 0") => `(tactic| fail)
set_option maxRecDepth 100000
open PySem.Spec PySem.Calls PySem.Builtin PySem.Builtin.Str
theorem slice_idx (a b n : Nat) : strSliceIndices (some (a : Int)) (some (b : Int)) 1 n = strSliceIndices (some ((min a n : Nat) : Int)) (some ((min b n : Nat) : Int)) 1 n := by
  simp only [strSliceIndices]
  have e1 : max (0 : Int) (min (if (a : Int) < 0 then (a : Int) + n else (a : Int)) n) = max (0 : Int) (min (if ((min a n : Nat) : Int) < 0 then ((min a n : Nat) : Int) + n else ((min a n : Nat) : Int)) n) := by
    rw [if_neg (by omega), if_neg (by omega)]; omega
  have e2 : max (0 : Int) (min (if (b : Int) < 0 then (b : Int) + n else (b : Int)) n) = max (0 : Int) (min (if ((min b n : Nat) : Int) < 0 then ((min b n : Nat) : Int) + n else ((min b n : Nat) : Int)) n) := by
    rw [if_neg (by omega), if_neg (by omega)]; omega
  simp only [show (1 : Int) > 0 by decide, if_true, e1, e2]
theorem slice_St (tx : List Nat) (a b : Nat) (hab : a ≤ b) : Txt.slice (St tx) (some (a : Int)) (some (b : Int)) = St ((tx.drop a).take (b - a)) := by
  have hn : (St tx).length = tx.length := st_length tx
  have e : Txt.slice (St tx) (some (a : Int)) (some (b : Int)) = StrLaws.sliceText (St tx) (some ((min a tx.length : Nat) : Int)) (some ((min b tx.length : Nat) : Int)) := by
    unfold Txt.slice StrLaws.sliceText
    rw [hn, slice_idx]
  rw [e, StrLaws.sliceText_nat _ (by omega) (by rw [hn]; omega)]
  have : (St tx).cps.toList = tx := by simp [St]
  rw [this]
  congr 1
  apply congrArg
  by_cases h : a ≤ tx.length
  · rw [Nat.min_eq_left h]
    by_cases h' : b ≤ tx.length
    · rw [Nat.min_eq_left h']
    · rw [Nat.min_eq_right (by omega), List.take_of_length_le (by simp), List.take_of_length_le (by simp; omega)]
  · rw [List.drop_eq_nil_of_le (by omega), List.drop_eq_nil_of_le (by omega)]; simp
theorem item_St (tx : List Nat) (i : Nat) (hi : i < tx.length) : Txt.item (St tx) (i : Int) = St [tx.getD i 0] := by
  unfold Txt.item
  have : Txt.charAt (St tx) (i : Int) = some (tx.getD i 0) := by
    have : (St tx).cps[(i : Int).toNat]? = some (tx.getD i 0) := by
      simp [St, hi]
    exact StrLaws.at_nonneg (by omega) this
  rw [this]; rfl
section
variable {prog : Program} {w : World} {A : Around} {E : Value → Shared → Prop} {Q : Flow → Shared → Prop} {s : Shared} {env : Env} {h₀ : Heap} {L : Addr}
/-- a while by its letters, over what was named ahead of it (b) -/
theorem while_loop {β σ : Type} (b : β) {test : PySem.Expr} {body : List Stmt} {pos : Pos} {m₀ : Str → Option Value} (Led : β → σ → List (Addr × Obj)) (ps : β → σ → List (Str × Value)) (stored : List Str) (P : β → σ → Prop) (μ : σ → Nat) (c₀ : σ)
    (F : Fr h₀ L s.heap m₀) (N : News h₀ L s.heap (Led b c₀)) (hk : ∀ p ∈ ps b c₀, m₀ p.1 = some p.2) (hp : P b c₀)
    (turn : ∀ (c : σ) (u : Str → Option Value) h tk, P b c → Fr h₀ L h (kstB (fun z => if stored.contains z then u z else m₀ z) (ps b c)) → News h₀ L h (Led b c) →
      wpAny (model prog w) A (isTrue test env (eval test env)) (fun t s₂ =>
        if t = true then wpAny (model prog w) A (execs body env) (fun f s₃ => match f with
          | .ret v => Q (.ret v) s₃
          | .brk => Q .next s₃
          | _ => Held (KswEnd h₀ L s (Led b) (ps b) (fun _ => True) stored m₀ (P b) μ c s₃)) E s₂ else Q .next s₂) E { s with heap := h, toks := tk })
    (hE : PassesOwn (model prog w) A env E := by passes_own) :
    wpAny (model prog w) A (exec (.While test body [] pos) env) Q E s :=
  ksw_while (Led b) (ps b) (fun _ => True) stored (P b) μ c₀ F N trivial hk hp (fun c u h tk _ hP F' N' => wpAny_mono (turn c u h tk hP F' N') (fun t s₂ x => by
    cases t with
    | false => exact x
    | true =>
      refine wpAny_mono x (fun f s₃ y => ?_) fun _ _ e => e
      cases f with
      | ret v => exact y
      | brk => exact y
      | next => exact y.out
      | cont => exact y.out) fun _ _ e => e) hE
end
end Txt2_part
section Rules_part
set_option maxRecDepth 100000
set_option maxHeartbeats 400000
section
variable {prog : Program} {w : World} {A : Around} {E : Value → Shared → Prop} {s : Shared} {n : Nat}
/-- the last item of a list is stored anew: xs[-1] = v -/
theorem set_neg1 {l : Addr} {items : Array Value} {t : Tok} {v : Value} {j : Nat} {Q : Unit → Shared → Prop} (ho : s.heap.get? l = some (listOf items n)) (hj : items.size = j + 1)
    (hQ : Q () { s with heap := s.heap.update l (Obj.mapSeq (·.setIfInBounds j v)) }) : wpAny (model prog w) A (setItem (.ref l) (.int (-1) t) v) Q E s := by
  have hl : s.heap.IsList l items := PySem.IsL.isList (n := n) ho
  unfold setItem
  try with_reducible refine wpAny_holding ?_
  first | refine wpAny_bind (wpAny_pure ?_) | skip
  refine wpAny_bind (wpAny_sequenceKey hl.typeIs (by decide) ?_)
  refine wpAny_bind (wpAny_callSpecial?_slot (name := Str.ofString "__setitem__") hl.typeIs slot_list_setitem
    (wpAny_call_entry slot_list_setitem hl.typeIs entry_list_setitem ?_ (args_list_setitem _ _ _)))
  show wpAny _ _ (Builtin.List.listSubscript? (.int (-1) t) >>= _) _ _ s
  refine wpAny_bind (wpAny_listSubscript_int (fitsIndex_neg (by decide) (by decide)) ?_)
  have hidx : seqIndex? (-1) items.size = some (((-1 : Int) + items.size).toNat) := seqIndex_neg (by decide) (by omega)
  have e : ((-1 : Int) + items.size).toNat = j := by omega
  rw [e] at hidx
  have hx' : items[j]? = some items[j] := Array.getElem?_eq_getElem (by omega)
  show wpAny _ _ ((Builtin.List.listItems (.ref l) >>= fun xs => pure ((seqIndex? (Int.negSucc 0) xs.size).bind fun i => xs[i]?.map (i, ·))) >>= _) _ _ s
  refine wpAny_bind (wpAny_bind ?_)
  show wpAny _ _ (seqItems? (.ref l) >>= _) _ _ s
  refine wpAny_bind (wpAny_seqItems ho rfl (wpAny_pure (wpAny_pure ?_)))
  have hidx' : seqIndex? (Int.negSucc 0) items.size = some j := hidx
  rw [hidx']
  simp only [Option.bind_some, hx', Option.map_some]
  show wpAny _ _ (setSeqItemAt l j v >>= _) _ _ s
  refine wpAny_bind (wpAny_setSeqItemAt ho rfl ?_)
  first
    | exact wpAny_bind (wpAny_pure (wpAny_pure ⟨.none, rfl, wpAny_pure hQ⟩))
    | exact wpAny_pure ⟨.none, rfl, wpAny_pure hQ⟩
theorem set_neg1K {h₀ : Heap} {L D : Addr} {m : Str → Option Value} {news news' : List (Addr × Obj)} {items : Array Value} {t : Tok} {v : Value} {j : Nat} {Q : Unit → Shared → Prop} (F : Fr h₀ L s.heap m) (N : News h₀ L s.heap news) (hj : items.size = j + 1)
    (U : Upd D (listOf items n) (listOf (items.setIfInBounds j v) n) news news')
    (h : ∀ h', Fr h₀ L h' m → News h₀ L h' news' → Q () { s with heap := h' }) : wpAny (model prog w) A (setItem (.ref D) (.int (-1) t) v) Q E s := by
  obtain ⟨pre, post, rfl, rfl, a, b⟩ := U.split
  have z := N (D, listOf items n) (List.mem_append.mpr (.inr (.head _)))
  refine set_neg1 z.1 hj (h _ (F.change (Heap.SameBut.update ..) z.2.1 z.2.2) (ki_turn _ N a b rfl ?_))
  simp
theorem get_neg1K {h₀ : Heap} {L D : Addr} {news : List (Addr × Obj)} {items : Array Value} {u : Tok} {x : Value} {j : Nat} {value slice : PySem.Expr} {Q : Value → Shared → Prop} (N : News h₀ L s.heap news) (hm : (D, listOf items n) ∈ news) (hj : items.size = j + 1) (hx : items[j]? = some x) (h : Q x s)
    (hs : subscripted slice false (.ref D) (.int (-1) u) = operate [.ref D, .int (-1) u] (getItem (.ref D) (.int (-1) u)) := by with_unfolding_all rfl) :
    wpAny (model prog w) A (subscriptTail value slice (.ref D) (.int (-1) u)) Q E s := by
  have hl : s.heap.IsList D items := PySem.IsL.isList (n := n) (N _ hm).1
  refine tail_any hl.typeIs slot_list_getitem.lookup (wpAny_getItem_list_neg hl (by decide) (by omega) (by decide) (x := x) ?_ h) hs
  have : ((-1 : Int) + items.size).toNat = j := by omega
  rw [this]; exact hx
theorem InstAt.base {h₀ h : Heap} {L x C dx : Addr} {m : Str → Option Value} {od : Obj} {sl : Array (Option Value)} (F : Fr h₀ L h m) (h1 : h₀.get? x = some (⟨.ref C, some dx, .plain, sl⟩ : Obj)) (h2 : h₀.get? dx = some od) :
    InstAt h x ⟨.ref C, some dx, .plain, sl⟩ C (some od) := ⟨F.keep _ _ h1, rfl, rfl, F.keep _ _ h2⟩
end
section
variable {prog : Program} {w : World} {A : Around} {E : Value → Shared → Prop} {s : Shared} {env : Env} {h₀ : Heap} {target : PySem.Expr} {body : List Stmt} {Q : Flow → Shared → Prop}
/-- rest_loop over what was named ahead of the loop (b); the ledger's order is free -/
theorem rest_loopB {β σ : Type} (b : β) {ws : List (Addr × String)} {keep : List (Addr × Obj)} {xs : List Itm} {m₀ : Str → Option Value} {news₀ : List (Addr × Obj)} (ps : β → σ → List (Str × Value)) (Led : β → σ → List (Addr × Obj)) (stored : List Str) (R : β → List Itm → σ → Prop) (c₀ : σ)
    (hm : ∀ p ∈ ps b c₀, m₀ p.1 = some p.2) (hn : news₀ = Led b c₀) (hR : R b xs c₀)
    (nil : ∀ (c : σ) (u : Str → Option Value) h tk, R b [] c → Fr h₀ env.locals h (kstB (fun z => if stored.contains z then u z else m₀ z) (ps b c)) → News h₀ env.locals h (Led b c) → Q .next { s with heap := h, toks := tk })
    (cons : ∀ (c : σ) (u : Str → Option Value) a r, R b (a :: r) c → Turn prog w A E h₀ env target body Q s ws keep a (kstB (fun z => if stored.contains z then u z else m₀ z) (ps b c)) (Led b c)
      (fun m' n' => Held (∃ c', (∀ p ∈ ps b c', m' p.1 = some p.2) ∧ (∀ z, (∀ p ∈ ps b c', z ≠ p.1) → stored.contains z = false → m' z = m₀ z) ∧ n' = Led b c' ∧ R b r c'))) :
    ItemsRest prog w A E h₀ env target body Q s ws keep xs m₀ news₀ := rest_loop (ps b) (Led b) stored (R b) c₀ hm hn hR nil cons
end
/-- a tuple as the walk makes it -/
noncomputable abbrev tupObj (vs : List Value) : Obj := { cls := .type "tuple", data := .seq vs.toArray }
open PySem.Spec PySem.Calls PySem.SeqAt
section
variable {prog : Program} {w : World} {A : Around} {E : Value → Shared → Prop} {s : Shared}
theorem ne_nil {l b : Addr} {items : Array Value} {Q : Value → Shared → Prop} (hl : s.heap.IsList l items) (hb : s.heap.IsList b #[]) (hu : A.units < cLine)
    (h : Q (.bool (decide (items.size ≠ 0))) s) : wpAny (model prog w) A (compareOp .NotEq (.ref l) (.ref b)) Q E s := by
  by_cases e : items.size = 0
  · refine RcNeAt.lists (e := fun _ => true) hl hb e hu (fun j h1 => absurd h1 (by omega)) prog w E Q ?_
    have : decide (items.size ≠ 0) = false := by simp [e]
    rw [this] at h
    rw [e]
    exact h
  · refine RcNeAt.lists_lengths hl hb (by simp [e]) hu prog w E Q ?_
    have : decide (items.size ≠ 0) = true := by simp [e]
    rw [this] at h
    exact h
theorem eq_nil {l b : Addr} {items : Array Value} {Q : Value → Shared → Prop} (hl : s.heap.IsList l items) (hb : s.heap.IsList b #[]) (hu : A.units < cLine)
    (h : Q (.bool (decide (items.size = 0))) s) : wpAny (model prog w) A (compareOp .Eq (.ref l) (.ref b)) Q E s := by
  by_cases e : items.size = 0
  · refine eq_listAt (e := fun _ => true) hl hb e hu (fun j h1 => absurd h1 (by omega)) ?_
    have : decide (items.size = 0) = true := by simp [e]
    rw [this] at h
    rw [e]
    exact h
  · refine eq_list_lengthsAt hl hb (by simp [e]) hu ?_
    have : decide (items.size = 0) = false := by simp [e]
    rw [this] at h
    exact h
end
/-- a turn's end over a list's iterator -/
theorem unr_end1 {h₀ : Heap} {L I : Addr} {o : Obj} {rest : (Str → Option Value) → List (Addr × Obj) → Prop} {s₁ : Shared} {h' : Heap} {tk : Nat} {m' : Str → Option Value} {all : List (Addr × Obj)} (F : Fr h₀ L h' m') (N : News h₀ L h' all) (news' : List (Addr × Obj))
    (hI : (I, o) ∈ all) (sub : ∀ p ∈ news', p ∈ all) (off : ∀ p ∈ news', p.1 ≠ I) (r : rest m' news') : UnrEndW h₀ L s₁ [(I, o)] rest { s₁ with heap := h', toks := tk } :=
  ⟨h', tk, m', news', rfl, F, (fun p hp => by
    rcases List.mem_append.mp hp with hp | hp
    · rw [List.mem_singleton.mp hp]; exact N _ hI
    · exact N p (sub p hp)), (fun p hp q hq => by rw [List.mem_singleton.mp hq]; exact off p hp), r⟩
end Rules_part
section Comp_part
local macro_rules | `(tactic| walk_at "no key 0") => `(tactic| fail)
set_option maxRecDepth 100000
set_option maxHeartbeats 400000
open PySem.Spec PySem.Calls PyProof.Rows.LCg
section
variable {prog : Program} {w : World} {A : Around} {E : Value → Shared → Prop} {s : Shared}
/-- the tests of a comprehension's clause -/
noncomputable abbrev testsOf (ifs : List PySem.Expr) (env : Env) : Sem Bool := forIn ifs true fun c r => if r = true then do let ok ← isTrue c env (eval c env); pure (ForInStep.yield ok) else pure (ForInStep.yield r)
theorem comp_loop {elt target iter : PySem.Expr} {ifs : List PySem.Expr} {scope : Scope} {pos : Pos} {it acc : Value} {env : Env} {R : Result → Shared → Prop} (I : Nat → Shared → Prop)
    (turn : ∀ n s, I n s → wpAny (model prog w) A (pyNext it) (fun r s₁ => match r with
      | none => R (.ok .next) s₁
      | some v => wpAny (model prog w) A (letOwnedTupleGo target it v) (fun _ s₀ => wpAny (model prog w) A (assign target env v) (fun _ s₂ =>
          wpAny (model prog w) A (testsOf ifs env) (fun ok s₃ => if ok = true then wpAny (model prog w) A (eval elt env) (fun x s₄ =>
            wpAny (model prog w) A (call (.builtin "list.append") [acc, x]) (fun _ s₅ => ∃ m, m < n ∧ I m s₅) (notedBy (model prog w) A env fun e s' => R (.error e) s') s₄) (notedBy (model prog w) A env fun e s' => R (.error e) s') s₃
            else ∃ m, m < n ∧ I m s₃) (notedBy (model prog w) A env fun e s' => R (.error e) s') s₂)
          (notedBy (model prog w) A env fun e s' => R (.error e) s') s₀) (notedBy (model prog w) A env fun e s' => R (.error e) s') s₁) (notedBy (model prog w) A env fun e s' => R (.error e) s') s)
    (n : Nat) (h : I n s) : codeAny (model prog w) A (.compLoop (.ListComp elt [⟨target, iter, ifs, 0⟩] scope pos) 0 it acc env) R s := by
  refine codeAny_loop rfl I (fun n s hI => ?_) n h
  show wpAny _ A ((compTurn (.ListComp elt [⟨target, iter, ifs, 0⟩] scope pos) 0 it acc env).onRaise (fun x => do noteFrame x env; theTreesLotGoes x)) _ _ s
  refine wpAny_noted ?_
  rw [compTurn_list]
  refine wpAny_bind (wpAny_standAt (wpAny_bind (wpAny_mono (turn n s hI) (fun r s₁ h₁ => ?_) fun _ _ h' => h')))
  cases r with
  | none => exact wpAny_pure h₁
  | some v =>
    refine wpAny_bind (wpAny_mono h₁ (fun _ s₀ h₀' => ?_) fun _ _ h' => h')
    refine wpAny_bind (wpAny_mono h₀' (fun _ s₂ h₂ => ?_) fun _ _ h' => h')
    refine wpAny_bind (wpAny_mono h₂ (fun okb s₃ h₃ => ?_) fun _ _ h' => h')
    cases okb with
    | false => exact wpAny_pure ⟨rfl, h₃⟩
    | true => exact wpAny_bind (wpAny_bind (wpAny_mono h₃ (fun x s₄ h₄ => wpAny_bind (wpAny_mono h₄ (fun _ s₅ h₅ => wpAny_pure (wpAny_pure ⟨rfl, h₅⟩)) fun _ _ h' => h')) fun _ _ h' => h'))
/-- an element's end: the frame, the ledger and what is gathered -/
noncomputable def CEnd (h₀ : Heap) (L : Addr) (m : Str → Option Value) (s₁ : Shared) (all : List (Addr × Obj)) (G : Value → Prop) (y : Value) (s₂ : Shared) : Prop :=
  ∃ h' tk, s₂ = { s₁ with heap := h', toks := tk } ∧ Fr h₀ L h' m ∧ News h₀ L h' all ∧ G y
theorem CEnd.intro {h₀ : Heap} {L : Addr} {m : Str → Option Value} {s₁ : Shared} {all all' : List (Addr × Obj)} {G : Value → Prop} {y : Value} {h' : Heap} {tk : Nat} (F : Fr h₀ L h' m) (N : News h₀ L h' all') (sub : ∀ p ∈ all, p ∈ all') (g : G y) : CEnd h₀ L m s₁ all G y { s₁ with heap := h', toks := tk } :=
  ⟨h', tk, rfl, F, fun p hp => N p (sub p hp), g⟩
variable {h₀ : Heap} {L : Addr} {m : Str → Option Value} {env : Env}
/-- a list comprehension over any source, its elements making nothing that is kept -/
theorem comp_block {elt target iter : PySem.Expr} {ifs : List PySem.Expr} {scope : Scope} {cl : List (Str × Addr)} {pos : Pos} {s₂ : Shared} {I : Addr} {fp wr : List Addr} {n : Nat} {P Md : Nat → Value → Heap → Prop} {St : Nat → Heap → Prop} {news : List (Addr × Obj)}
    {Nm : Nat → (Str → Option Value) → Prop} {Y : Nat → List Value → Prop} {RR : Value → Addr → Result → Shared → Prop}
    (W : KTurns prog w A target I fp wr n P Md St) (self : ∀ (s : Shared) (Q : Value → Shared → Prop) (E : Value → Shared → Prop), St 0 s.heap → Q (.ref I) s → wpAny (model prog w) A (pyIter (.ref I)) Q E s) (hsz : n ≤ 1000)
    (hcell : ∀ y ∈ scope.names, y.2 ≠ .cell) (hkind : scope.kind = .function) (hst : St 0 s₂.heap) (hfp : ∀ b ∈ fp, b < s₂.heap.objs.size) (hLf : L ∉ fp) (hwr : ∀ b ∈ wr, h₀.get? b = none) (hnw : ∀ p ∈ news, p.1 ∉ wr)
    (F : Fr h₀ L s₂.heap m) (N : News h₀ L s₂.heap news) (hY : Y 0 [])
    (asg : ∀ i v C s₁ m' (Q : Unit → Shared → Prop) (E' : Value → Shared → Prop), P i v s₁.heap → s₁.heap.Ns C m' →
      (∀ h₂ m₂ tk, h₂.Ns C m₂ → Nm i m₂ → (∀ b o, b ≠ C → s₁.heap.get? b = some o → h₂.get? b = some o) → Q () { s₁ with heap := h₂, toks := tk }) → wpAny (model prog w) A (assign target (compEnvC scope cl C env) v) Q E' s₁)
    (turn : ∀ i ys own C oC D m₂ h tk (E' : Value → Shared → Prop), i < n → ys.length ≤ i → Y i ys → NsObj oC m₂ → Nm i m₂ → Fr h₀ L h m → News h₀ L h ((C, oC) :: (D, lst ys) :: (news ++ own)) → (∀ p ∈ news, p.1 < D) → @LT.lt Nat _ D C →
      wpAny (model prog w) A (testsOf ifs (compEnvC scope cl C env)) (fun ok s' => if ok = true then
        wpAny (model prog w) A (eval elt (compEnvC scope cl C env)) (CEnd h₀ L m { s₂ with heap := h, toks := tk } ((C, oC) :: (D, lst ys) :: (news ++ own)) (fun y => Y (i + 1) (ys ++ [y]))) E' s'
        else CEnd h₀ L m { s₂ with heap := h, toks := tk } ((C, oC) :: (D, lst ys) :: (news ++ own)) (fun _ => Y (i + 1) ys) Value.none s') E' { s₂ with heap := h, toks := tk })
    (hRR : ∀ D C h tk m' ys, Fr h₀ L h m → News h₀ L h ((D, lst ys) :: news) → (∀ p ∈ news, p.1 < D) → h.Ns C m' → h₀.get? C = none → h₀.get? D = none → C ≠ L → D ≠ L → C ≠ D → (∀ p ∈ news, p.1 ≠ C) → Y n ys → RR (.ref D) C (.ok .next) { s₂ with heap := h, toks := tk }) :
    wpAny (model prog w) A (newList []) (fun acc s₃ => wpAny (model prog w) A (newFunctionEnv scope env.globals cl [] env.qual none .none (some env)) (fun cenv s₄ =>
      codeAny (model prog w) A (.compStart (.ListComp elt [⟨target, iter, ifs, 0⟩] scope pos) 0 (.ref I) acc { cenv with scope := relabel scope env }) (RR acc cenv.locals) s₄) E s₃) E s₂ := by
  refine wpAny_newObj_type (wpAny_newFunctionEnv hcell (by intro y hy; simp at hy) (fun h₁ hns₁ hsb₁ => ?_) hkind)
  dsimp only at hns₁ hsb₁ ⊢
  generalize hH2 : s₂.heap.push { cls := .type "list", dict := none, data := .seq ([] : List Value).toArray } = H2 at hns₁ hsb₁ ⊢
  have hC : H2.objs.size = s₂.heap.objs.size + 1 := by rw [← hH2, Heap.size_push]
  have hDC : s₂.heap.objs.size ≠ H2.objs.size := by rw [hC]; exact Nat.ne_of_lt (Nat.lt_succ_self _)
  have below : ∀ b, b < s₂.heap.objs.size → b ≠ H2.objs.size ∧ b ≠ s₂.heap.objs.size := fun b hb => ⟨by rw [hC]; exact Nat.ne_of_lt (Nat.lt_succ_of_lt hb), Nat.ne_of_lt hb⟩
  have hDf : s₂.heap.objs.size ∉ fp := fun hm => Nat.lt_irrefl _ (hfp _ hm)
  have hCf : H2.objs.size ∉ fp := fun hm => by have := hfp _ hm; rw [hC] at this; exact Nat.lt_irrefl _ (Nat.lt_of_succ_lt this)
  have hCw : H2.objs.size ∉ wr := fun hm => hCf (W.sub _ hm)
  have hDw : s₂.heap.objs.size ∉ wr := fun hm => hDf (W.sub _ hm)
  have hLw : L ∉ wr := fun hm => hLf (W.sub _ hm)
  have old : ∀ b o, s₂.heap.get? b = some o → h₁.get? b = some o := fun b o e => hsb₁.extBut b o (below b (Heap.lt_size e)).1 (Heap.get?_push_of_some _ (hH2 ▸ Heap.get?_push_of_some _ e))
  have hacc : h₁.get? s₂.heap.objs.size = some (lst []) := hsb₁.extBut _ _ hDC (Heap.get?_push_of_some _ (hH2 ▸ Heap.get?_push_size _ rfl))
  have hst₁ : St 0 h₁ := W.frame _ _ _ hst fun b _ o e => old b o e
  have fresh₀ : ∀ a, s₂.heap.objs.size ≤ a → h₀.get? a = none := fun a ha => by
    cases e : h₀.get? a with
    | none => rfl
    | some o' => exact absurd (Heap.lt_size (F.keep a o' e)) (Nat.not_lt.mpr ha)
  have hD₀ : h₀.get? s₂.heap.objs.size = none := fresh₀ _ (Nat.le_refl _)
  have hC₀ : h₀.get? H2.objs.size = none := fresh₀ _ (by rw [hC]; exact Nat.le_succ _)
  have hLlt : L < s₂.heap.objs.size := F.ns.lt
  have hDL : s₂.heap.objs.size ≠ L := Ne.symm (below L hLlt).2
  have hCL : H2.objs.size ≠ L := Ne.symm (below L hLlt).1
  have offN : ∀ p ∈ news, p.1 < s₂.heap.objs.size := fun p hp => Heap.lt_size (N p hp).1
  have kept : ∀ {h h' : Heap}, (∀ b o, b ∉ wr → h.get? b = some o → h'.get? b = some o) → Fr h₀ L h m → Fr h₀ L h' m := fun k F' =>
    ⟨F'.ns.at' fun o e => k L o hLw e, fun b o e => k b o (fun hb => by rw [hwr b hb] at e; cases e) (F'.keep b o e), F'.above⟩
  have loop : ∀ s₃ : Shared, s₃ = { s₂ with heap := h₁, toks := s₂.toks + ([] : List (Str × Value)).length } →
      codeAny (model prog w) A (.compLoop (.ListComp elt [⟨target, iter, ifs, 0⟩] scope pos) 0 (.ref I) (.ref s₂.heap.objs.size) (compEnvC scope cl H2.objs.size env))
        (RR (.ref s₂.heap.objs.size) H2.objs.size) s₃ := by
    rintro s₃ rfl
    refine comp_loop
      (fun k s' => ∃ h' tk i ys m', s' = { s₂ with heap := h', toks := tk } ∧ i ≤ n ∧ k = n + 1 - i ∧ ys.length ≤ i ∧ St i h' ∧ Fr h₀ L h' m ∧ h'.Ns H2.objs.size m' ∧ News h₀ L h' ((s₂.heap.objs.size, lst ys) :: news) ∧ Y i ys) ?_ (n + 1)
      ⟨h₁, _, 0, [], _, rfl, Nat.zero_le _, rfl, Nat.le_refl _, hst₁, F.keeps old, hns₁, fun p hp => ?_, hY⟩
    · rintro k s' ⟨h', tk, i, ys, m', rfl, hi, rfl, hyl, hst', F', hn', N', hYi⟩
      have offD : ∀ p ∈ (s₂.heap.objs.size, lst ys) :: news, p.1 ∉ wr := fun p hp => by
        rcases List.mem_cons.mp hp with rfl | hp
        · exact hDw
        · exact hnw p hp
      by_cases hlt : i < n
      · refine W.item i _ _ _ hlt hst' fun v h₂ tk₂ hMd hk₂ => ?_
        refine W.go i v _ _ _ hMd fun h₃ hP₃ hst₃ hk₃ => ?_
        have k3 : ∀ b o, b ∉ wr → h'.get? b = some o → h₃.get? b = some o := fun b o hb e => hk₃ b o hb (hk₂ b o hb e)
        refine asg i v H2.objs.size { s₂ with heap := h₃, toks := tk₂ } _ _ _ hP₃ (hn'.at' fun o e => k3 _ o hCw e) fun h₄ m₄ tk₄ hn₄ hNm hk₄ => ?_
        have F₄ : Fr h₀ L h₄ m := by
          have F₃ := kept k3 F'
          exact ⟨F₃.ns.at' fun o e => hk₄ L o (Ne.symm hCL) e, fun b o e => hk₄ b o (fun q => by rw [q, hC₀] at e; cases e) (F₃.keep b o e), F₃.above⟩
        have hst₄ : St (i + 1) h₄ := W.frame _ _ _ hst₃ fun b hb o e => hk₄ b o (fun q => hCf (q ▸ hb)) e
        obtain ⟨oC, heC, hoC⟩ := ns_obj hn₄
        have Nown : News h₀ L h₄ (PyProof.Rows.ownOf h₀ fp h₄) := news_ownOf hLf
        have NDn : News h₀ L h₄ ((s₂.heap.objs.size, lst ys) :: news) := fun p hp => by
          have z := N' p hp
          refine ⟨hk₄ _ _ ?_ (k3 _ _ (offD p hp) z.1), z.2⟩
          rcases List.mem_cons.mp hp with rfl | hp
          · exact hDC
          · exact (below _ (offN p hp)).1
        have N₄ : News h₀ L h₄ ((H2.objs.size, oC) :: (s₂.heap.objs.size, lst ys) :: (news ++ PyProof.Rows.ownOf h₀ fp h₄)) := fun p hp => by
          rcases List.mem_cons.mp hp with rfl | hp
          · exact ⟨heC, hCL, hC₀⟩
          rcases List.mem_cons.mp hp with rfl | hp
          · exact NDn _ List.mem_cons_self
          rcases List.mem_append.mp hp with hp | hp
          · exact NDn _ (List.mem_cons_of_mem _ hp)
          · exact Nown p hp
        have hCD : @LT.lt Nat _ s₂.heap.objs.size H2.objs.size := by rw [hC]; exact Nat.lt_succ_self _
        refine wpAny_mono (turn i ys (PyProof.Rows.ownOf h₀ fp h₄) H2.objs.size oC s₂.heap.objs.size m₄ h₄ tk₄ _ hlt hyl hYi hoC hNm F₄ N₄ offN hCD) (fun ok s₅ h₅ => ?_) fun _ _ e => e
        have back : ∀ {h₅ : Heap}, Fr h₀ L h₅ m → News h₀ L h₅ ((H2.objs.size, oC) :: (s₂.heap.objs.size, lst ys) :: (news ++ PyProof.Rows.ownOf h₀ fp h₄)) → St (i + 1) h₅ := fun {h₅} F₅ N₅ => W.frame _ _ _ hst₄ fun b hb o e => by
          cases hn : h₀.get? b with
          | some o₀ =>
            have : o₀ = o := by have q := F₄.keep b o₀ hn; rw [e] at q; exact (Option.some.inj q).symm
            exact this ▸ F₅.keep b o₀ hn
          | none => exact (N₅ _ (List.mem_cons_of_mem _ (List.mem_cons_of_mem _ (List.mem_append_right _ (mem_ownOf hb hn e))))).1
        cases ok with
        | true =>
          simp only [if_true] at h₅ ⊢
          refine wpAny_mono h₅ (fun y s₆ h₆ => ?_) fun _ _ e => e
          obtain ⟨h₆, tk₆, rfl, F₆, N₆, hY₆⟩ := h₆
          have zC := (N₆ (H2.objs.size, oC) List.mem_cons_self).1
          have zD := (N₆ (s₂.heap.objs.size, lst ys) (List.mem_cons_of_mem _ List.mem_cons_self)).1
          have hst₆ := back F₆ N₆
          refine append_at (hsz := by show ys.toArray.size ≤ 2 ^ 24; rw [List.size_toArray]; omega) zD fun h₇ hs₇ hD₇ => ?_
          refine ⟨n + 1 - (i + 1), by omega, h₇, tk₆, i + 1, ys ++ [y], _, rfl, hlt, rfl, by rw [List.length_append, List.length_singleton]; omega, W.frame _ _ _ hst₆ fun b hb o e => hs₇.extBut b o (fun q => hDf (q ▸ hb)) e, F₆.change hs₇ hDL hD₀,
            (hoC.ns zC).sameBut hs₇ (Ne.symm hDC), fun p hp => ?_, hY₆⟩
          rcases List.mem_cons.mp hp with rfl | hp
          · exact ⟨hD₇.trans (congrArg some (lst_snoc ys y)), hDL, hD₀⟩
          · have z := N₆ p (List.mem_cons_of_mem _ (List.mem_cons_of_mem _ (List.mem_append_left _ hp)))
            exact ⟨hs₇.extBut _ _ (below _ (offN p hp)).2 z.1, z.2⟩
        | false =>
          simp only [Bool.false_eq_true, if_false] at h₅ ⊢
          obtain ⟨h₆, tk₆, rfl, F₆, N₆, hY₆⟩ := h₅
          have zC := (N₆ (H2.objs.size, oC) List.mem_cons_self).1
          have zD := (N₆ (s₂.heap.objs.size, lst ys) (List.mem_cons_of_mem _ List.mem_cons_self)).1
          refine ⟨n + 1 - (i + 1), by omega, h₆, tk₆, i + 1, ys, _, rfl, hlt, rfl, by omega, back F₆ N₆, F₆, hoC.ns zC, fun p hp => ?_, hY₆⟩
          rcases List.mem_cons.mp hp with rfl | hp
          · exact ⟨zD, hDL, hD₀⟩
          · exact N₆ p (List.mem_cons_of_mem _ (List.mem_cons_of_mem _ (List.mem_append_left _ hp)))
      · obtain rfl : i = n := Nat.le_antisymm hi (Nat.not_lt.mp hlt)
        refine W.done _ _ _ hst' fun h₂ tk₂ hk₂ => ?_
        exact hRR _ _ h₂ tk₂ _ ys (kept hk₂ F') (fun p hp => ⟨hk₂ _ _ (offD p hp) (N' p hp).1, (N' p hp).2⟩) offN (hn'.at' fun o e => hk₂ _ o hCw e) hC₀ hD₀ hCL hDL (Ne.symm hDC) (fun p hp => (below _ (offN p hp)).1) hYi
    · rcases List.mem_cons.mp hp with rfl | hp
      · exact ⟨hacc, hDL, hD₀⟩
      · exact ⟨old _ _ (N p hp).1, (N p hp).2⟩
  exact codeAny_compStart_list (loop _ rfl) (self _ _ _ hst₁ (loop _ rfl))
end
end Comp_part
section Comp2_part
set_option maxRecDepth 100000
set_option maxHeartbeats 400000
open PySem.Spec PySem.Calls PyProof.Rows.LCg
section
variable {prog : Program} {w : World} {A : Around} {E : Value → Shared → Prop} {s : Shared}
variable {h₀ : Heap} {L : Addr} {m : Str → Option Value} {env : Env}
/-- what a comprehension's turn must show -/
noncomputable def CTurn (prog : Program) (w : World) (A : Around) (h₀ : Heap) (L : Addr) (m : Str → Option Value) (env : Env) (elt : PySem.Expr) (ifs : List PySem.Expr) (scope : Scope) (cl : List (Str × Addr)) (s₂ : Shared) (news : List (Addr × Obj)) (Nm : Nat → (Str → Option Value) → Prop) (Y : Nat → List Value → Prop) (i : Nat) : Prop :=
  ∀ ys own C oC D m₂ h tk (E' : Value → Shared → Prop), ys.length ≤ i → Y i ys → NsObj oC m₂ → Nm i m₂ → Fr h₀ L h m → News h₀ L h ((C, oC) :: (D, lst ys) :: (news ++ own)) → (∀ p ∈ news, p.1 < D) → @LT.lt Nat _ D C →
      wpAny (model prog w) A (testsOf ifs (compEnvC scope cl C env)) (fun ok s' => if ok = true then
        wpAny (model prog w) A (eval elt (compEnvC scope cl C env)) (CEnd h₀ L m { s₂ with heap := h, toks := tk } ((C, oC) :: (D, lst ys) :: (news ++ own)) (fun y => Y (i + 1) (ys ++ [y]))) E' s'
        else CEnd h₀ L m { s₂ with heap := h, toks := tk } ((C, oC) :: (D, lst ys) :: (news ++ own)) (fun _ => Y (i + 1) ys) Value.none s') E' { s₂ with heap := h, toks := tk }
noncomputable def CompAt (prog : Program) (w : World) (A : Around) (h₀ : Heap) (L : Addr) (m : Str → Option Value) (env : Env) (elt target : PySem.Expr) (ifs : List PySem.Expr) (scope : Scope) (cl : List (Str × Addr)) (Q : Value → Shared → Prop) (it : Value) (s₂ : Shared) : Prop :=
  ∃ (I : Addr) (fp wr : List Addr) (n : Nat) (P Md : Nat → Value → Heap → Prop) (St : Nat → Heap → Prop) (news : List (Addr × Obj)) (Nm : Nat → (Str → Option Value) → Prop) (Y : Nat → List Value → Prop),
    it = .ref I ∧ KTurns prog w A target I fp wr n P Md St ∧ (∀ (s : Shared) (Q : Value → Shared → Prop) (E : Value → Shared → Prop), St 0 s.heap → Q (.ref I) s → wpAny (model prog w) A (pyIter (.ref I)) Q E s) ∧ n ≤ 1000 ∧ St 0 s₂.heap ∧ (∀ b ∈ fp, b < s₂.heap.objs.size) ∧ L ∉ fp ∧ (∀ b ∈ wr, h₀.get? b = none) ∧ (∀ p ∈ news, p.1 ∉ wr) ∧
    Fr h₀ L s₂.heap m ∧ News h₀ L s₂.heap news ∧ Y 0 [] ∧
    (∀ i v C s₁ m' (Q : Unit → Shared → Prop) (E' : Value → Shared → Prop), P i v s₁.heap → s₁.heap.Ns C m' →
      (∀ h₂ m₂ tk, h₂.Ns C m₂ → Nm i m₂ → (∀ b o, b ≠ C → s₁.heap.get? b = some o → h₂.get? b = some o) → Q () { s₁ with heap := h₂, toks := tk }) → wpAny (model prog w) A (assign target (compEnvC scope cl C env) v) Q E' s₁) ∧
    (∀ i, i < n → CTurn prog w A h₀ L m env elt ifs scope cl s₂ news Nm Y i) ∧
    ∀ D h tk ys, Fr h₀ L h m → News h₀ L h ((D, lst ys) :: news) → (∀ p ∈ news, p.1 < D) → Y n ys → Q (.ref D) { s₂ with heap := h, toks := tk }
theorem comp_eval {elt target iter : PySem.Expr} {ifs : List PySem.Expr} {scope : Scope} {cl : List (Str × Addr)} {pos : Pos} {Q : Value → Shared → Prop} (_F₀ : Fr h₀ L s.heap m)
    (hclos : closureFor scope env = pure cl) (hcell : ∀ y ∈ scope.names, y.2 ≠ .cell) (hkind : scope.kind = .function)
    (hnames : ∀ y ∈ scope.names, y.2 = .local → scope.names.lookup y.1 = some .local)
    (h : wpAny (model prog w) A (eval iter env) (fun xv s₁ => wpAny (model prog w) A (pyIter xv) (fun it s₂ => CompAt prog w A h₀ L m env elt target ifs scope cl Q it s₂) E s₁) E s)
    (hs : ∀ x, foldedSetIterable iter env x = pure x := by intro _; rfl) :
    wpAny (model prog w) A (eval (.ListComp elt [⟨target, iter, ifs, 0⟩] scope pos) env) Q E s := by
  rw [eval_ListComp]
  refine wpAny_comprehension_free (use := none) rfl hs hclos hkind hnames (wpAny_mono h (fun xv s₁ h₁ => wpAny_mono h₁ (fun it s₂ h₂ => ?_) fun _ _ e => e) fun _ _ e => e)
  obtain ⟨I, fp, wr, n, P, Md, St, news, Nm, Y, rfl, W, self, hn, hst, hfp, hLf, hwr, hnw, F, N, hY, asg, turn, fin⟩ := h₂
  refine comp_block W self hn hcell hkind hst hfp hLf hwr hnw F N hY asg (fun i ys own C oC D m₂ h tk E' hi a b c d e f g k => turn i hi ys own C oC D m₂ h tk E' a b c d e f g k) ?_
  intro D C h tk m' ys F' N' o1 hn' hC₀ hD₀ hCL hDL hCD offC hY
  refine ⟨m', hn', fun h'' hs'' => fin D h'' tk ys (F'.change hs'' hCL hC₀) (fun p hp => ?_) o1 hY⟩
  refine ⟨hs''.extBut _ _ ?_ (N' p hp).1, (N' p hp).2⟩
  rcases List.mem_cons.mp hp with rfl | hp
  · exact Ne.symm hCD
  · exact offC p hp
theorem asg_name {scope : Scope} {cl : List (Str × Addr)} {x : Str} {px : Pos} (hkind : scope.kind = .function) (hx : scope.names.lookup x = some .local) {v : Value} {C : Addr} {s₁ : Shared} {m' : Str → Option Value} {Q : Unit → Shared → Prop} {E' : Value → Shared → Prop} (hn : s₁.heap.Ns C m')
    (h : ∀ h₂ m₂ tk, h₂.Ns C m₂ → m₂ x = some v → (∀ b o, b ≠ C → s₁.heap.get? b = some o → h₂.get? b = some o) → Q () { s₁ with heap := h₂, toks := tk }) :
    wpAny (model prog w) A (assign (.Name x px) (compEnvC scope cl C env) v) Q E' s₁ :=
  wpAny_assign_Name (wpAny_storeName_local (lookup_relabel_local hx) hn (fun h₃ hn₃ hs₃ => h h₃ _ _ hn₃ (by simp) fun b o hb e => hs₃.extBut b o hb e) (by simp [compEnvC, relabel, hkind]))
theorem asg_pair {scope : Scope} {cl : List (Str × Addr)} {x x₂ : Str} {px px₂ tp : Pos} {kk : Nat} (hh : A.handled = none) (hkind : scope.kind = .function) (hx : scope.names.lookup x = some .local) (hx₂ : scope.names.lookup x₂ = some .local) (hxx : x ≠ x₂) {T : Addr} {v₁ v₂ : Value} {C : Addr} {s₁ : Shared} {m' : Str → Option Value} {Q : Unit → Shared → Prop} {E' : Value → Shared → Prop} (hn : s₁.heap.Ns C m') (ht : IsTup s₁.heap T #[v₁, v₂])
    (h : ∀ h₂ m₂ tk, h₂.Ns C m₂ → m₂ x = some v₁ ∧ m₂ x₂ = some v₂ → (∀ b o, b ≠ C → s₁.heap.get? b = some o → h₂.get? b = some o) → Q () { s₁ with heap := h₂, toks := tk }) :
    wpAny (model prog w) A (assign (.Tuple [.Name x px, .Name x₂ px₂] kk tp) (compEnvC scope cl C env) (.ref T)) Q E' s₁ := by
  refine assign_Tuple_tuple hh ht rfl rfl fun h₅ he => ?_
  have he' : ∀ b o, s₁.heap.get? b = some o → h₅.get? b = some o := fun b o e => he b o (Nat.ne_of_lt (Heap.lt_size e)) e
  refine assignInOrder_cons (wpAny_assign_Name (wpAny_storeName_local (lookup_relabel_local hx) (hn.at' fun o e => he' _ o e) (fun h₆ hn₆ hs₆ => ?_) (by simp [compEnvC, relabel, hkind])))
  refine assignInOrder_cons (wpAny_assign_Name (wpAny_storeName_local (lookup_relabel_local hx₂) hn₆ (fun h₃ hn₃ hs₃ => ?_) (by simp [compEnvC, relabel, hkind])))
  refine assignInOrder_nil ?_
  exact h h₃ _ _ hn₃ ⟨by simp [hxx], by simp⟩ fun b o hb e => hs₃.extBut b o hb (hs₆.extBut b o hb (he' b o e))
variable {elt : PySem.Expr} {ifs : List PySem.Expr} {scope : Scope} {cl : List (Str × Addr)} {Q : Value → Shared → Prop} {news : List (Addr × Obj)}
/-- over the signs of a text -/
theorem comp_str {x : Str} {px : Pos} {X : Str} {t : Tok} (Y : Nat → List Value → Prop) (hh : A.handled = none) (hkind : scope.kind = .function) (hx : scope.names.lookup x = some .local) (F : Fr h₀ L s.heap m) (N : News h₀ L s.heap news) (hn : X.length ≤ 1000) (hY : Y 0 [])
    (turn : ∀ (s₂ : Shared) i, (∃ h, s₂ = { s with heap := h }) → i < X.length → CTurn prog w A h₀ L m env elt ifs scope cl s₂ news (fun i m₂ => ∃ c u, X.cps[i]? = some c ∧ m₂ x = some (.str ⟨#[c]⟩ u)) Y i)
    (fin : ∀ D h tk ys, Fr h₀ L h m → News h₀ L h ((D, lst ys) :: news) → (∀ p ∈ news, p.1 < D) → Y X.length ys → Q (.ref D) { s with heap := h, toks := tk }) :
    wpAny (model prog w) A (pyIter (.str X t)) (fun it s₂ => CompAt prog w A h₀ L m env elt (.Name x px) ifs scope cl Q it s₂) E s := by
  refine wpAny_pyIter_str fun o St W hst => ?_
  have W' := W A hh
  refine ⟨s.heap.objs.size, _, _, X.cps.size, _, _, St, news, _, Y, rfl, KTurns.ofWalks W' (fun i v s Q E _ q => (show wpAny (model prog w) A (pure ()) Q E s from wpAny_pure q)), fun s Q E st q => W'.self 0 s Q E st q, hn, hst, ?_, ?_, ?_, ?_, F.push _, (fun p hp => ⟨Heap.get?_push_of_some _ (N p hp).1, (N p hp).2⟩), hY, ?_, (fun i hi => turn _ i ⟨_, rfl⟩ hi), fun D h tk ys F' N' o hY => fin D h tk ys F' N' o hY⟩
  · intro b hb
    rw [List.mem_singleton.mp hb]
    show _ < (s.heap.push o).objs.size
    rw [Heap.size_push]; exact Nat.lt_succ_self _
  · intro hb; exact absurd F.ns.lt ((List.mem_singleton.mp hb) ▸ Nat.lt_irrefl _)
  · intro b hb; rw [List.mem_singleton.mp hb]; exact next_is_new F
  · intro p hp hI; exact absurd (Heap.lt_size (N p hp).1) ((List.mem_singleton.mp hI) ▸ Nat.lt_irrefl _)
  · rintro i v C s₁ m' Q' E' ⟨c, u, hc, rfl⟩ hns hq
    exact asg_name hkind hx hns fun h₂ m₂ tk a b k => hq h₂ m₂ tk a ⟨c, u, hc, b⟩ k
/-- over a list, one name -/
theorem comp_list {x : Str} {px : Pos} {l : Addr} {vs : List Value} (Y : Nat → List Value → Prop) (hh : A.handled = none) (hkind : scope.kind = .function) (hx : scope.names.lookup x = some .local) (F : Fr h₀ L s.heap m) (N : News h₀ L s.heap news) (hl : s.heap.IsList l vs.toArray) (hlL : l ≠ L) (hn : vs.length ≤ 1000) (hY : Y 0 [])
    (turn : ∀ (s₂ : Shared) i, (∃ h, s₂ = { s with heap := h }) → i < vs.length → CTurn prog w A h₀ L m env elt ifs scope cl s₂ news (fun i m₂ => ∃ v, vs[i]? = some v ∧ m₂ x = some v) Y i)
    (fin : ∀ D h tk ys, Fr h₀ L h m → News h₀ L h ((D, lst ys) :: news) → (∀ p ∈ news, p.1 < D) → Y vs.length ys → Q (.ref D) { s with heap := h, toks := tk }) :
    wpAny (model prog w) A (pyIter (.ref l)) (fun it s₂ => CompAt prog w A h₀ L m env elt (.Name x px) ifs scope cl Q it s₂) E s := by
  have hlt : l < s.heap.objs.size := let ⟨_, e, _⟩ := hl; Heap.lt_size e
  have hne : l ≠ s.heap.objs.size := Nat.ne_of_lt hlt
  refine wpAny_pyIter_list hl ?_
  have W' := Walks.list (prog := prog) (w := w) hh s.heap.objs.size l hne vs.toArray
  have hsz : vs.toArray.size = vs.length := by simp
  rw [hsz] at W'
  refine ⟨s.heap.objs.size, _, _, vs.length, _, _, _, news, _, Y, rfl, KTurns.ofWalks W' (fun i v s Q E _ q => (show wpAny (model prog w) A (pure ()) Q E s from wpAny_pure q)), fun s Q E st q => W'.self 0 s Q E st q, hn, ⟨⟨_, Heap.get?_push_size _ rfl, rfl, rfl⟩, hl.at fun o e => Heap.get?_push_of_some _ e⟩, ?_, ?_, ?_, ?_, F.push _, (fun p hp => ⟨Heap.get?_push_of_some _ (N p hp).1, (N p hp).2⟩), hY, ?_, (fun i hi => turn _ i ⟨_, rfl⟩ hi), fun D h tk ys F' N' o hY => fin D h tk ys F' N' o hY⟩
  · intro b hb
    show b < (s.heap.push _).objs.size
    rw [Heap.size_push]
    rcases List.mem_cons.mp hb with rfl | hb
    · exact Nat.lt_succ_self _
    · rw [List.mem_singleton.mp hb]; exact Nat.lt_succ_of_lt hlt
  · intro hb
    rcases List.mem_cons.mp hb with e | hb
    · exact absurd F.ns.lt (e ▸ Nat.lt_irrefl _)
    · exact hlL (List.mem_singleton.mp hb).symm
  · intro b hb; rw [List.mem_singleton.mp hb]; exact next_is_new F
  · intro p hp hI; exact absurd (Heap.lt_size (N p hp).1) ((List.mem_singleton.mp hI) ▸ Nat.lt_irrefl _)
  · rintro i v C s₁ m' Q' E' hc hns hq
    have hc' : vs.toArray[i]? = some v := hc
    exact asg_name hkind hx hns fun h₂ m₂ tk a b k => hq h₂ m₂ tk a ⟨v, by simpa using hc', b⟩ k
/-- over a list of pairs, two names -/
theorem comp_pairs {x x₂ : Str} {px px₂ tp : Pos} {kk : Nat} {l : Addr} {vs : List Value} (G : Nat → Value → Value → Prop) (Y : Nat → List Value → Prop) (hh : A.handled = none) (hkind : scope.kind = .function) (hx : scope.names.lookup x = some .local) (hx₂ : scope.names.lookup x₂ = some .local) (hxx : x ≠ x₂) (F : Fr h₀ L s.heap m) (N : News h₀ L s.heap news) (hl : s.heap.IsList l vs.toArray) (hlL : l ≠ L)
    (hps : ∀ (i : Nat) (v : Value), vs[i]? = some v → ∃ T v₁ v₂, v = .ref T ∧ IsTup s.heap T #[v₁, v₂] ∧ T ≠ L ∧ G i v₁ v₂) (hn : vs.length ≤ 1000) (hY : Y 0 [])
    (turn : ∀ (s₂ : Shared) i, (∃ h, s₂ = { s with heap := h }) → i < vs.length → CTurn prog w A h₀ L m env elt ifs scope cl s₂ news (fun i m₂ => ∃ v₁ v₂, G i v₁ v₂ ∧ m₂ x = some v₁ ∧ m₂ x₂ = some v₂) Y i)
    (fin : ∀ D h tk ys, Fr h₀ L h m → News h₀ L h ((D, lst ys) :: news) → (∀ p ∈ news, p.1 < D) → Y vs.length ys → Q (.ref D) { s with heap := h, toks := tk }) :
    wpAny (model prog w) A (pyIter (.ref l)) (fun it s₂ => CompAt prog w A h₀ L m env elt (.Tuple [.Name x px, .Name x₂ px₂] kk tp) ifs scope cl Q it s₂) E s := by
  have hlt : l < s.heap.objs.size := let ⟨_, e, _⟩ := hl; Heap.lt_size e
  have hne : l ≠ s.heap.objs.size := Nat.ne_of_lt hlt
  refine wpAny_pyIter_list hl ?_
  have hsz : vs.toArray.size = vs.length := by simp
  have hex : ∀ j, ∃ q : Addr × Value × Value, j < vs.length → vs[j]? = some (.ref q.1) ∧ s.heap.IsTuple q.1 #[q.2.1, q.2.2] ∧ q.1 ≠ L ∧ G j q.2.1 q.2.2 := fun j => by
    by_cases hj : j < vs.length
    · obtain ⟨T, v₁, v₂, e, ht, hT, hG⟩ := hps j vs[j] (List.getElem?_eq_getElem hj)
      exact ⟨(T, v₁, v₂), fun _ => ⟨by rw [List.getElem?_eq_getElem hj, e], ht, hT, hG⟩⟩
    · exact ⟨(0, .none, .none), fun h => absurd h hj⟩
  obtain ⟨f, hf⟩ := Classical.axiomOfChoice hex
  let addr : Nat → Addr := fun j => (f j).1
  let vals : Nat → Array Value := fun j => #[(f j).2.1, (f j).2.2]
  have hat : ∀ j, j < vs.length → vs[j]? = some (.ref (addr j)) ∧ s.heap.IsTuple (addr j) (vals j) ∧ addr j ≠ L := fun j hj => ⟨(hf j hj).1, (hf j hj).2.1, (hf j hj).2.2.1⟩
  have W' := WalksU.listOfTuples (prog := prog) (w := w) hh s.heap.objs.size l hne vs.toArray addr vals (fun j hj => by have := (hat j (hsz ▸ hj)).1; simpa using this) (fun j hj => Nat.ne_of_lt (let ⟨_, e, _⟩ := (hat j (hsz ▸ hj)).2.1; Heap.lt_size e))
  refine ⟨s.heap.objs.size, _, _, vs.toArray.size, _, _, _, news, _, Y, rfl, KTurns.ofWalksU W'.bound, fun s Q E st q => W'.self 0 s Q E st q, by rw [hsz]; exact hn, ⟨⟨_, Heap.get?_push_size _ rfl, rfl, rfl⟩, hl.at fun o e => Heap.get?_push_of_some _ e, fun k hk => (hat k (hsz ▸ hk)).2.1.at fun o e => Heap.get?_push_of_some _ e⟩, ?_, ?_, ?_, ?_, F.push _, (fun p hp => ⟨Heap.get?_push_of_some _ (N p hp).1, (N p hp).2⟩), hY, ?_, (fun i hi => turn _ i ⟨_, rfl⟩ (hsz ▸ hi)), fun D h tk ys F' N' o hY => fin D h tk ys F' N' o (hsz ▸ hY)⟩
  · intro b hb
    show b < (s.heap.push _).objs.size
    rw [Heap.size_push]
    rcases List.mem_cons.mp hb with rfl | hb
    · exact Nat.lt_succ_self _
    rcases List.mem_cons.mp hb with rfl | hb
    · exact Nat.lt_succ_of_lt hlt
    obtain ⟨j, hj, rfl⟩ := List.mem_map.mp hb
    exact Nat.lt_succ_of_lt (let ⟨_, e, _⟩ := (hat j (hsz ▸ List.mem_range.mp hj)).2.1; Heap.lt_size e)
  · intro hb
    rcases List.mem_cons.mp hb with e | hb
    · exact absurd F.ns.lt (e ▸ Nat.lt_irrefl _)
    rcases List.mem_cons.mp hb with e | hb
    · exact hlL e.symm
    obtain ⟨j, hj, e⟩ := List.mem_map.mp hb
    exact (hat j (hsz ▸ List.mem_range.mp hj)).2.2 e
  · intro b hb; rw [List.mem_singleton.mp hb]; exact next_is_new F
  · intro p hp hI; exact absurd (Heap.lt_size (N p hp).1) ((List.mem_singleton.mp hI) ▸ Nat.lt_irrefl _)
  · rintro i v C s₁ m' Q' E' ⟨T, vals', rfl, ⟨hi, hvals⟩, hT⟩ hns hq
    have hvals' : vals' = vals i := hvals
    subst hvals'
    exact asg_pair hh hkind hx hx₂ hxx hns hT fun h₂ m₂ tk a b k => hq h₂ m₂ tk a ⟨_, _, (hf i (hsz ▸ hi)).2.2.2, b.1, b.2⟩ k
end
end Comp2_part
section Txt3_part
local macro_rules | `(tactic| walk_at "no key 0") => `(tactic| fail)
set_option maxRecDepth 100000
set_option maxHeartbeats 400000
open PySem.Spec PySem.Calls PySem.Builtin PySem.Builtin.Str
/-- values that are texts -/
noncomputable def TxtsAre (ys : List Value) (ts : List (List Nat)) : Prop := ∃ l : List (PySem.Str × Tok), ys = strValues l ∧ l.map (·.1) = ts.map St
theorem TxtsAre.nil : TxtsAre [] [] := ⟨[], rfl, rfl⟩
theorem TxtsAre.snoc {ys : List Value} {ts : List (List Nat)} (h : TxtsAre ys ts) (x : List Nat) (t : Tok) : TxtsAre (ys ++ [.str (St x) t]) (ts ++ [x]) := by
  obtain ⟨l, e, e2⟩ := h
  exact ⟨l ++ [(St x, t)], by rw [e]; simp [strValues], by rw [List.map_append, List.map_append, e2]; rfl⟩
theorem TxtsAre.append {ys zs : List Value} {ts us : List (List Nat)} (h : TxtsAre ys ts) (h' : TxtsAre zs us) : TxtsAre (ys ++ zs) (ts ++ us) := by
  obtain ⟨l, e, e2⟩ := h
  obtain ⟨l', e', e2'⟩ := h'
  exact ⟨l ++ l', by rw [e, e']; simp [strValues], by rw [List.map_append, List.map_append, e2, e2']⟩
theorem TxtsAre.length {ys : List Value} {ts : List (List Nat)} (h : TxtsAre ys ts) : ys.length = ts.length := by
  obtain ⟨l, e, e2⟩ := h
  have := congrArg List.length e2
  rw [e]; simpa [strValues] using this
theorem TxtsAre.get {ys : List Value} {ts : List (List Nat)} (h : TxtsAre ys ts) {i : Nat} {v : Value} (hv : ys[i]? = some v) : ∃ x t, ts[i]? = some x ∧ v = .str (St x) t := by
  obtain ⟨l, e, e2⟩ := h
  rw [e, strValues, List.getElem?_map] at hv
  cases hl : l[i]? with
  | none => rw [hl] at hv; cases hv
  | some p =>
    rw [hl] at hv
    have := congrArg (·[i]?) e2
    simp only [List.getElem?_map, hl, Option.map_some] at this
    cases ht : ts[i]? with
    | none => rw [ht] at this; cases this
    | some x =>
      rw [ht] at this
      injection this with this
      injection hv with hv
      exact ⟨x, p.2, rfl, by rw [← hv, ← this]⟩
theorem join_St : ∀ (ts : List (List Nat)), PySem.Str.join (St []) (ts.map St) = St ts.flatten
  | [] => rfl
  | [x] => by simp [PySem.Str.join]
  | x :: y :: r => by
    have := join_St (y :: r)
    simp only [List.map_cons, List.flatten_cons] at this ⊢
    show St x ++ St [] ++ PySem.Str.join (St []) (St y :: r.map St) = _
    rw [this, st_append, st_append]
    simp
section
variable {prog : Program} {w : World} {A : Around} {E : Value → Shared → Prop} {s : Shared}
theorem join_T {D : Addr} {ys : List Value} {ts : List (List Nat)} {x : PySem.Str} {t : Tok} {Q : Value → Shared → Prop} (hl : s.heap.IsList D ys.toArray) (hy : TxtsAre ys ts) (hx : x = St []) (hn : ts.length ≤ 1000) (hB : ∀ y ∈ ts, y.length ≤ 1000)
    (hq : ∀ t' k, Q (.str (St ts.flatten) t') { s with toks := k }) : wpAny (model prog w) A (call (.builtin "str.join") [.str x t, .ref D]) Q E s := by
  obtain ⟨l, e, e2⟩ := hy
  subst e hx
  refine SC.join hl e2 ?_ fun t' k => ?_
  · unfold JoinOk
    rw [StrLaws.joinFits (B := 1000)]
    · rfl
    · intro y hy
      obtain ⟨z, hz, rfl⟩ := List.mem_map.mp hy
      rw [st_length]; exact hB z hz
    · rw [List.length_map, st_length]; simp; omega
  · have : Txt.join (St []) (ts.map St) = St ts.flatten := by
      show glued _ _ = _
      rw [StrLaws.glued_eq_join, join_St]
    rw [this]; exact hq t' k
end
end Txt3_part
section Mut_part
set_option maxRecDepth 100000
set_option maxHeartbeats 400000
/-- a call that turns the objects of led; g is what stays -/
noncomputable def Mut (w : World) (d : Nat) (f : Addr) (vs : List Value) (led : List (Addr × Obj)) (Pre : Heap → Prop) (Post : Value → List (Addr × Obj) → Prop) : Prop :=
  ∀ (mean : ExcName → Option Value) (mg mb : Str → Option Value) (dp un : Nat) (gd : Option (List Code)) (cn : Str) (cs : Scope) (L a : Addr) (ccd : Value) (cl : List (Str × Addr)) (outer : List Env) (base g : Heap) (s : Shared) (Q E : Value → Shared → Prop),
    g.StaysIn s.heap → g.objs.size = s.heap.objs.size → (∀ p ∈ led, s.heap.get? p.1 = some p.2 ∧ g.get? p.1 = none) → Pre g →
    (Mine.hd.heap_1 w.params).In g → TopL mean mg mb g → Below (ktrTop dp un gd cn cs L a ccd cl outer) base (envX cn cs L a ccd cl :: outer) g → cs.kind = .function → dp + d < recursionLimit → un + 12 * d < cLine →
    (∀ v new h' tk', g.StaysIn h' → (∀ p ∈ new, h'.get? p.1 = some p.2 ∧ g.get? p.1 = none) → Post v new → Q v { s with heap := h', toks := tk' }) →
    wpAny (model PySem.Challenge.rw_pb0263_01.row.prog w) (ktrTop dp un gd cn cs L a ccd cl outer) (call (.ref f) vs) Q E s
theorem Mut.use {w : World} {d : Nat} {f : Addr} {vs : List Value} {led tl : List (Addr × Obj)} {Pre : Heap → Prop} {Post : Value → List (Addr × Obj) → Prop} {mean : ExcName → Option Value} {mg mb : Str → Option Value} {dp un : Nat} {gd : Option (List Code)} {cn : Str} {cs : Scope} {L a : Addr} {ccd : Value} {cl : List (Str × Addr)} {outer : List Env} {A₀ : Around} {base h₀ : Heap} {m : Str → Option Value} {news : List (Addr × Obj)} {s : Shared} {Q E : Value → Shared → Prop}
    (C : Mut w d f vs led Pre Post) (B : Below A₀ base outer h₀) (F : Fr h₀ L s.heap m) (X : (Mine.hd.heap_1 w.params).In h₀) (N : News h₀ L s.heap news) (T : TopL mean mg mb h₀) (hk : cs.kind = .function) (hd : dp + d < recursionLimit) (hu : un + 12 * d < cLine)
    (sub : ∀ p ∈ led, p ∈ news) (sub2 : ∀ p ∈ tl, p ∈ news) (off : ∀ p ∈ led, ∀ q ∈ tl, @Ne Nat p.1 q.1) (pre : ∀ g, h₀.StaysIn g → (∀ p ∈ tl, g.get? p.1 = some p.2) → Pre g)
    (ret : ∀ v new h' tk', Fr h₀ L h' m → News h₀ L h' (new ++ tl) → (∀ p ∈ new, ∀ q ∈ tl, @Ne Nat p.1 q.1) → Post v new → Q v { s with heap := h', toks := tk' }) :
    wpAny (model PySem.Challenge.rw_pb0263_01.row.prog w) (ktrTop dp un gd cn cs L a ccd cl outer) (call (.ref f) vs) Q E s := by
  obtain ⟨FG, BG, st, -⟩ := groundX (A := ktrTop dp un gd cn cs L a ccd cl outer) (R := fun _ _ => True) B F (fun p hp => N p (sub p hp) : News h₀ L s.heap led) rfl rfl hk
  have ht : ∀ p ∈ tl, (hideAll s.heap (led.map (·.1))).get? p.1 = some p.2 := fun p hp => hideAll_get _ (N p (sub2 p hp)).1 fun q => by
    obtain ⟨r, hr, e⟩ := List.mem_map.mp q
    exact off r hr p hp e
  refine C mean mg mb dp un gd cn cs L a ccd cl outer base (hideAll s.heap (led.map (·.1))) s Q E (fun b o e => of_hideAll _ e) (hideAll_size _ _) (fun p hp => ⟨(N p (sub p hp)).1, hideAll_none _ (List.mem_map_of_mem hp)⟩) (pre _ st ht) (X.keeps fun b o e => st b o e) (T.keeps fun b o e => st b o e) BG hk hd hu fun v new h' tk' k M P => ?_
  obtain ⟨oL, hL⟩ : ∃ o, (hideAll s.heap (led.map (·.1))).get? L = some o := let ⟨o, _, _, e, _⟩ := FG.ns; ⟨o, e⟩
  refine ret v new h' tk' ⟨FG.ns.keeps k, fun b o e => k b o (st b o e), F.above⟩ (fun p hp => ?_) (fun p hp q hq e => ?_) P
  · rcases List.mem_append.mp hp with hp | hp
    · refine ⟨(M p hp).1, fun e => ?_, ?_⟩
      · have := (M p hp).2; rw [e, hL] at this; cases this
      · cases q : h₀.get? p.1 with
        | none => rfl
        | some o => have := st _ _ q; rw [(M p hp).2] at this; cases this
    · exact ⟨k _ _ (ht p hp), (N p (sub2 p hp)).2⟩
  · have h1 := (M p hp).2
    have h2 := ht q hq
    have e' : p.1 = q.1 := e
    rw [e', h2] at h1; cases h1
theorem Mut.enter {w : World} {d : Nat} {vs : List Value} {led : List (Addr × Obj)} {Pre : Heap → Prop} {Post : Value → List (Addr × Obj) → Prop}
    {name qual : Str} {params : Arguments} {body : List Stmt} {scope : Scope} {dV kV doc pm cdv ct oc : Value} {an od : Option Addr} {osl : Array (Option Value)} {f : Addr} {binds : List (Str × Value)}
    (ho : (Mine.hd.heap_1 w.params).lookup f = some ⟨oc, od, .func (fnOf name qual params body scope dV kV doc pm an cdv ct), osl⟩) (hcd : codeIn (Mine.hd.heap_1 w.params) cdv qual = true)
    (hbind : bindArgs (fnOf name qual params body scope dV kV doc pm an cdv ct) ⟨vs, []⟩ = pure binds) (hloc : ∀ y ∈ binds, scope.names.lookup y.1 = some .local)
    (hd : 0 < d)
    (body_ : ∀ (mean : ExcName → Option Value) (mg mb : Str → Option Value) (dp un : Nat) (gd : Option (List Code)) (outer : List Env) (A₀ : Around) (base g : Heap) (hp₁ : Heap) (gs₁ : Array GenState) (dr₁ : Drawn) (tk₁ : Nat) (os₁ : OsState) (L' : Addr) (Q : Value → Shared → Prop),
      let mF : Str → Option Value := fun y => binds.reverse.lookup y
      let AF : Around := ktrTop dp un gd qual scope L' f cdv [] outer
      let EF : Env := envOf qual scope L' f cdv
      Fr g L' hp₁ mF → News g L' hp₁ led → Pre g → Below A₀ base outer g → (Mine.hd.heap_1 w.params).In g → TopL mean mg mb g → dp + d < recursionLimit + 1 → un + 12 * d < cLine + 3 →
      (∀ v new h' tk' m', Fr g L' h' m' → News g L' h' new → Post v new → Q v ⟨h', gs₁, dr₁, tk', os₁⟩) →
      wpAny (model PySem.Challenge.rw_pb0263_01.row.prog w) AF (execs body EF) (fun fl s' => Q (match fl with | .ret v => v | _ => .none) s') (fun _ _ => False) ⟨hp₁, gs₁, dr₁, tk₁, os₁⟩)
    (hco : scope.isCoroutine = false := by rfl) (hgen : scope.isGenerator = false := by rfl) (hk : scope.kind = .function := by rfl)
    (hcell : ∀ x ∈ scope.names, x.2 ≠ .cell := by decide) : Mut w d f vs led Pre Post := by
  intro mean mg mb dp un gd cn cs L a ccd cl outer base g s Q E hst hsz hled hpre X T B hcs hdp hun ret
  refine wpAny_call ?_
  refine codeAny_call_def (fd := fnOf name qual params body scope dV kV doc pm an cdv ct) (body := body) (binds := binds) (by show dp < recursionLimit; omega) (hst _ _ (X _ _ ho)) rfl (T.nolimit.keeps hst) ((codeRec_of X hcd).keeps hst) rfl (BindsTo.of_eq hbind) hcell hloc (fun h₁ hns hk₁ => ?_) hco hgen hk
  have F₁ : Fr g s.heap.objs.size h₁ (fun y => binds.reverse.lookup y) := ⟨hns, fun b o e => hk₁ b o (hst b o e), Nat.le_of_eq hsz⟩
  have N₁ : News g s.heap.objs.size h₁ led := fun p hp => ⟨hk₁ _ _ (hled p hp).1, fun e => by have := Heap.lt_size (hled p hp).1; rw [e] at this; exact Nat.lt_irrefl _ this, (hled p hp).2⟩
  refine wpAny_mono (body_ mean mg mb (dp + 1) (un + 3) gd (envX cn cs L a ccd cl :: outer) _ base g h₁ s.gens s.drawn (s.toks + binds.length) s.os s.heap.objs.size (fun v s' => Q v s') F₁ N₁ hpre B X T (by omega) (by omega) fun v new h' tk' m' F' N' P => ?_) (fun fl s' hl => hl) fun _ _ x => x.elim
  exact ret v new h' tk' F'.keep (fun p hp => ⟨(N' p hp).1, (N' p hp).2.2⟩) P
end Mut_part
section Txt4_part
local macro_rules | `(tactic| walk_at "no key 0") => `(tactic| fail)
set_option maxRecDepth 100000
set_option maxHeartbeats 400000
open PySem.Spec PySem.Calls PySem.Builtin PySem.Builtin.Str
/-- values that are given texts -/
theorem TxtsAre.strs {ys : List Value} {ts : List (List Nat)} (h : TxtsAre ys ts) : StrsAre ys (ts.map St) := by
  obtain ⟨l, rfl, e⟩ := h
  rw [← e]
  clear e
  induction l with
  | nil => exact .nil
  | cons p r ih => exact .cons _ _ ih
theorem countIn_T (x : List Nat) : ∀ ts : List (List Nat), countIn (.str (St x)) ((ts.map St).map PyData.str) = (ts.count x : Int)
  | [] => rfl
  | y :: r => by
    show (if (St y == St x) = true then 1 else 0) + countIn (.str (St x)) ((r.map St).map PyData.str) = _
    rw [countIn_T x r, st_beq, List.count_cons]
    rcases Bool.eq_false_or_eq_true (y == x) with hb | hb <;> simp only [hb, Bool.false_eq_true, if_true, if_false] <;> push_cast <;> omega
theorem any_T (x : List Nat) : ∀ ts : List (List Nat), (ts.map St).any (· == St x) = decide (x ∈ ts)
  | [] => rfl
  | y :: r => by
    rw [List.map_cons, List.any_cons, any_T x r, st_beq]
    rw [Bool.eq_iff_iff]; simp only [Bool.or_eq_true, beq_iff_eq, decide_eq_true_eq, List.mem_cons]
    constructor
    · rintro (h | h)
      · exact .inl h.symm
      · exact .inr h
    · rintro (h | h)
      · exact .inl h.symm
      · exact .inr h
theorem isStrOf_at (k : PySem.Str) : ∀ {vs : List Value} {ys : List PySem.Str}, StrsAre vs ys → ∀ (i : Nat) (h1 : i < vs.length) (h2 : i < ys.length), isStrOf k vs[i] = (ys[i] == k)
  | _, _, .nil, i, h1, _ => absurd h1 (Nat.not_lt_zero i)
  | _, _, .cons n u h, i, h1, h2 => by
    cases i with
    | zero => rfl
    | succ i => exact isStrOf_at k h i (by simpa using h1) (by simpa using h2)
theorem StrsAre.len {vs : List Value} {ys : List PySem.Str} (h : StrsAre vs ys) : vs.length = ys.length := by
  induction h with
  | nil => rfl
  | cons y t _ ih => simp [ih]
section
variable {prog : Program} {w : World} {A : Around} {E : Value → Shared → Prop} {s : Shared}
theorem list_method {D : Addr} {items : Array Value} {n : Nat} {name : PySem.Str} {id : String} {pl : Sem Bool} {Q : Value × List Value → Shared → Prop} (hl : s.heap.get? D = some (listOf items n)) (slot : Slot "list" name id) (hty : typeOf (.builtin id) = pure (.type "method_descriptor"))
    (h : Q (.builtin id, [.ref D]) s) : wpAny (model prog w) A (getMethod (.ref D) name pl) Q E s :=
  getMethod_builtin ⟨_, hl, rfl⟩ PySem.F.plainAttrs_list slot hty (fun a e => by cases e; exact ⟨_, hl, rfl⟩) h
theorem listAt_is {h : Heap} {D : Addr} {items : Array Value} {n : Nat} (hl : h.get? D = some (listOf items n)) : h.IsList D items := PySem.IsL.isList (n := n) hl
theorem listAt_is' {h : Heap} {D : Addr} {items : Array Value} {n : Nat} (hl : h.get? D = some (listOf items n)) : h.IsList D items.toList.toArray := by
  rw [show items.toList.toArray = items by simp]; exact PySem.IsL.isList (n := n) hl
theorem count_T {l : Addr} {vs : List Value} {ts : List (List Nat)} {x : List Nat} {k : PySem.Str} {t : Tok} {Q : Value → Shared → Prop} (hl : s.heap.IsList l vs.toArray) (hi : TxtsAre vs ts) (hk : k = St x)
    (h : Q (.int (ts.count x : Int) s.toks) { s with toks := s.toks + 1 }) : wpAny (model prog w) A (call (.builtin "list.count") [.ref l, .str k t]) Q E s := by
  subst hk
  exact count_list_strs hl hi.strs (by rw [countIn_T]; exact h)
theorem in_T {l : Addr} {items : Array Value} {ts : List (List Nat)} {x : List Nat} {k : PySem.Str} {t : Tok} {Q : Value → Shared → Prop} (hl : s.heap.IsList l items) (hi : TxtsAre items.toList ts) (hk : k = St x)
    (h : Q (.bool (decide (x ∈ ts))) s) : wpAny (model prog w) A (compareOp .In (.str k t) (.ref l)) Q E s := by
  subst hk
  exact in_list_strs hl hi.strs (by rw [any_T]; exact h)
theorem notin_T {l : Addr} {items : Array Value} {ts : List (List Nat)} {x : List Nat} {k : PySem.Str} {t : Tok} {Q : Value → Shared → Prop} (hl : s.heap.IsList l items) (hi : TxtsAre items.toList ts) (hk : k = St x)
    (h : Q (.bool (!decide (x ∈ ts))) s) : wpAny (model prog w) A (compareOp .NotIn (.str k t) (.ref l)) Q E s := by
  subst hk
  exact notin_list_strs hl hi.strs (by rw [any_T]; exact h)
theorem index_T {l : Addr} {vs : List Value} {ts : List (List Nat)} {x : List Nat} {k : PySem.Str} {t : Tok} {Q : Value → Shared → Prop} (hl : s.heap.IsList l vs.toArray) (hi : TxtsAre vs ts) (hk : k = St x) (hx : x ∈ ts) (hn : ts.length ≤ 1000)
    (h : Q (.int (ts.idxOf x : Int) s.toks) { s with toks := s.toks + 1 }) : wpAny (model prog w) A (call (.builtin "list.index") [.ref l, .str k t]) Q E s := by
  subst hk
  obtain ⟨⟨cls, dd, data, sl⟩, ho, hc, n, hd⟩ := id hl
  simp only at hc hd
  subst hc hd
  have hlen := hi.length
  have hj : ts.idxOf x < ts.length := List.idxOf_lt_length_iff.mpr hx
  have hs := hi.strs
  refine call_meets PySem.F.slot_list_index ⟨_, ho, rfl⟩ PySem.F.entry_list_index (PySem.F.args_list_index_2 _ _)
    (PySem.SeqAt.list_indexAt l vs.toArray n dd sl (.str (St x) t) (isStrOf (St x)) (ts.idxOf x) (by simpa [hlen] using hj) (by omega) ?_ ?_) ⟨ho, fun y hy => (eq_isStrOf (St x) t hs y (by simpa using hy)).at _ _, h⟩
  · show isStrOf (St x) vs[ts.idxOf x] = true
    rw [isStrOf_at _ hs _ (by omega) (by simpa using hj), List.getElem_map, List.getElem_idxOf hj]
    simp
  · intro j hjs hlt
    show isStrOf (St x) vs[j] = false
    have hj' : j < ts.length := by omega
    rw [isStrOf_at _ hs j (by simpa using hjs) (by simpa using hj'), List.getElem_map, st_beq]
    exact List.not_of_lt_findIdx (p := (· == x)) hlt |> fun h => by simpa using h
end
end Txt4_part
section Txt5_part
set_option maxRecDepth 100000
set_option maxHeartbeats 400000
theorem valueAt_cons {K : Type} [DecidableEq K] (p : K × Value) (r : List (K × Value)) (x : K) : valueAt (p :: r) x = if p.1 = x then some p.2 else valueAt r x := by
  unfold valueAt
  rw [List.find?_cons]
  by_cases h : p.1 = x
  · simp [h]
  · simp [h]
theorem valueAt_put {K : Type} [DecidableEq K] (k : K) (v : Value) (x : K) : ∀ kvs : List (K × Value), valueAt (kvs.map (fun kv => if kv.1 = k then (kv.1, v) else kv)) x = if x = k then (if kvs.any (fun kv => kv.1 = k) then some v else none) else valueAt kvs x
  | [] => by simp [valueAt]
  | p :: r => by
    have ih := valueAt_put k v x r
    rw [List.map_cons, valueAt_cons, ih, valueAt_cons]
    by_cases h1 : p.1 = k
    · by_cases h2 : x = k
      · simp [h1, h2]
      · have : ¬ p.1 = x := fun e => h2 (e ▸ h1)
        simp only [if_pos h1, if_neg h2, if_neg this, if_neg (fun e => h2 (Eq.symm e) : ¬ k = x)]
    · by_cases h2 : x = k
      · subst h2
        rw [if_neg h1, if_neg h1, if_pos rfl, if_pos rfl, List.any_cons, decide_eq_false h1, Bool.false_or]
      · rw [if_neg h1, if_neg h2, if_neg h2]
theorem valueAt_snoc {K : Type} [DecidableEq K] (k : K) (v : Value) (x : K) : ∀ kvs : List (K × Value), kvs.any (fun kv => kv.1 = k) = false → valueAt (kvs ++ [(k, v)]) x = if x = k then some v else valueAt kvs x
  | [], _ => by
    rw [List.nil_append, valueAt_cons]
    by_cases h : x = k
    · simp [h]
    · simp [h, valueAt, fun e => h (Eq.symm e)]
      intro e; exact absurd e.symm h
  | p :: r, hn => by
    rw [List.any_cons, Bool.or_eq_false_iff] at hn
    rw [List.cons_append, valueAt_cons, valueAt_snoc k v x r hn.2, valueAt_cons]
    have h1 : ¬ p.1 = k := by simpa using hn.1
    by_cases h2 : x = k
    · subst h2; simp [h1]
    · simp [h2]
theorem valueAt_stored {K : Type} [DecidableEq K] (kvs : List (K × Value)) (k : K) (v : Value) (x : K) : valueAt (stored kvs k v) x = if x = k then some v else valueAt kvs x := by
  unfold stored
  by_cases h : kvs.any (fun kv => kv.1 = k) = true
  · rw [if_pos h, valueAt_put, if_pos h]
  · rw [if_neg h, valueAt_snoc _ _ _ _ (Bool.not_eq_true _ ▸ h)]
section
variable {prog : Program} {w : World} {A : Around} {E : Value → Shared → Prop} {s : Shared} {h₀ : Heap} {L d : Addr} {m : PySem.Str → Option Value} {news : List (Addr × Obj)} {g : Obj → List (Addr × Obj)} {o : Obj}
/-- a text-keyed dict by what it answers -/
noncomputable def Answers (prog : Program) (w : World) (o : Obj) (n : Nat) (f : PySem.Str → Option Value) : Prop := ∃ kvs, o.IsDictOf (PySem.strKind prog w) kvs ∧ kvs.length ≤ n ∧ ∀ x, valueAt kvs x = f x
theorem ans_set {n : Nat} {f : PySem.Str → Option Value} {k : PySem.Str} {t : Tok} {v : Value} {Q : Unit → Shared → Prop} (F : Fr h₀ L s.heap m) (N : News h₀ L s.heap news) (U : UpdF d o news g) (hd : Answers prog w o n f) (hsz : n ≤ 1000)
    (h : ∀ h' o', Fr h₀ L h' m → News h₀ L h' (g o') → Answers prog w o' (n + 1) (fun x => if x = k then some v else f x) → Q () { s with heap := h', toks := s.toks + 1 }) : wpAny (model prog w) A (setItem (.ref d) (.str k t) v) Q E s := by
  obtain ⟨kvs, h1, h2, h3⟩ := hd
  refine kda_set F N U h1 (strKind_is _ _ _ _) (by rw [sizeLine_eq]; omega) fun h' o' F' N' hd' => h h' o' F' N' ⟨_, hd', Nat.le_trans (stored_length_le _ _ _) (by omega), fun x => ?_⟩
  rw [valueAt_stored, h3]
theorem ans_method {n : Nat} {f : PySem.Str → Option Value} {pl : Sem Bool} {Q : Value × List Value → Shared → Prop} (N : News h₀ L s.heap news) (hp : (d, o) ∈ news) (hd : Answers prog w o n f) (h : Q (.builtin "dict.get", [.ref d]) s) : wpAny (model prog w) A (getMethod (.ref d) "get" pl) Q E s := by
  obtain ⟨kvs, h1, h2, h3⟩ := hd
  exact kdg_method N hp h1 h
theorem ans_get {n : Nat} {f : PySem.Str → Option Value} {k : PySem.Str} {t : Tok} {dflt : Value} {Q : Value → Shared → Prop} (N : News h₀ L s.heap news) (hp : (d, o) ∈ news) (hd : Answers prog w o n f) (lo : (d == sysModules) = false) (h : Q ((f k).getD dflt) { s with toks := s.toks + 1 }) :
    wpAny (model prog w) A (call (.builtin "dict.get") [.ref d, .str k t, dflt]) Q E s := by
  obtain ⟨kvs, h1, h2, h3⟩ := hd
  exact kdg_get2 N hp h1 lo (strKind_is _ _ _ _) (f k) (h3 k) h
end
/-- Pure.enter for a def with defaults -/
theorem Pure.enterD {w : World} {d : Nat} {vs : List Value} {h : Heap} {Post : Value → List (Addr × Obj) → Prop}
    {name qual : Str} {params : Arguments} {body : List Stmt} {scope : Scope} {dV kV doc pm cdv ct oc : Value} {an od : Option Addr} {osl : Array (Option Value)} {f : Addr} {binds : List (Str × Value)}
    (ho : (Mine.hd.heap_1 w.params).lookup f = some ⟨oc, od, .func (fnOf name qual params body scope dV kV doc pm an cdv ct), osl⟩) (hcd : codeIn (Mine.hd.heap_1 w.params) cdv qual = true)
    (hbind : ∀ s' : Shared, (Mine.hd.heap_1 w.params).In s'.heap → BindsTo s' (fnOf name qual params body scope dV kV doc pm an cdv ct) ⟨vs, []⟩ binds) (hloc : ∀ y ∈ binds, scope.names.lookup y.1 = some .local)
    (hd : 0 < d)
    (body_ : ∀ (mean : ExcName → Option Value) (mg mb : Str → Option Value) (dp un : Nat) (gd : Option (List Code)) (outer : List Env) (A₀ : Around) (base : Heap) (hp₁ : Heap) (gs₁ : Array GenState) (dr₁ : Drawn) (tk₁ : Nat) (os₁ : OsState) (L' : Addr) (Q : Value → Shared → Prop),
      let mF : Str → Option Value := fun y => binds.reverse.lookup y
      let AF : Around := ktrTop dp un gd qual scope L' f cdv [] outer
      let EF : Env := envOf qual scope L' f cdv
      Fr h L' hp₁ mF → News h L' hp₁ [] → Below A₀ base outer h → (Mine.hd.heap_1 w.params).In h → TopL mean mg mb h → dp + d < recursionLimit + 1 → un + 12 * d < cLine + 3 →
      (∀ v new h' tk' m', Fr h L' h' m' → News h L' h' new → Post v new → Q v ⟨h', gs₁, dr₁, tk', os₁⟩) →
      wpAny (model PySem.Challenge.rw_pb0263_01.row.prog w) AF (execs body EF) (fun fl s' => Q (match fl with | .ret v => v | _ => .none) s') (fun _ _ => False) ⟨hp₁, gs₁, dr₁, tk₁, os₁⟩)
    (hco : scope.isCoroutine = false := by rfl) (hgen : scope.isGenerator = false := by rfl) (hk : scope.kind = .function := by rfl)
    (hcell : ∀ x ∈ scope.names, x.2 ≠ .cell := by decide) : Pure w d f vs h Post := by
  intro mean mg mb dp un gd cn cs L a ccd cl outer base s Q E hs X T B hcs hdp hun ret
  subst hs
  refine wpAny_call ?_
  refine codeAny_call_def (fd := fnOf name qual params body scope dV kV doc pm an cdv ct) (body := body) (binds := binds) (by show dp < recursionLimit; omega) (X _ _ ho) rfl T.nolimit (codeRec_of X hcd) rfl (hbind s X) hcell hloc (fun h₁ hns hk₁ => ?_) hco hgen hk
  have F₁ : Fr s.heap s.heap.objs.size h₁ (fun y => binds.reverse.lookup y) := ⟨hns, hk₁, Nat.le_refl _⟩
  refine wpAny_mono (body_ mean mg mb (dp + 1) (un + 3) gd (envX cn cs L a ccd cl :: outer) _ base h₁ s.gens s.drawn (s.toks + binds.length) s.os s.heap.objs.size (fun v s' => Q v s') F₁ (fun p hp => nomatch hp) B X T (by omega) (by omega) fun v new h' tk' m' F' N' P => ?_) (fun fl s' hl => hl) fun _ _ x => x.elim
  exact ret v new h' tk' F'.keep (fun p hp => ⟨(N' p hp).1, (N' p hp).2.2⟩) P
end Txt5_part
section Digs_part
local macro_rules | `(tactic| walk_at "no key 0") => `(tactic| fail)
/-- a number's figures -/
noncomputable def digs (n : Nat) : List Nat := if h : n < 10 then [48 + n] else digs (n / 10) ++ [48 + n % 10]
termination_by n
decreasing_by omega
theorem digs_small {n : Nat} (h : n < 10) : digs n = [48 + n] := by rw [digs]; simp [h]
theorem digs_big {n : Nat} (h : 10 ≤ n) : digs n = digs (n / 10) ++ [48 + n % 10] := by rw [digs]; simp [Nat.not_lt.mpr h]
theorem digitChar_nat : ∀ d, d < 10 → (Nat.digitChar d).toNat = 48 + d := by decide
theorem digs_repr (n : Nat) : (Nat.toDigits 10 n).map Char.toNat = digs n := by
  induction n using Nat.strongRecOn with
  | _ n ih =>
    by_cases h : n < 10
    · rw [Nat.toDigits_of_lt_base h, digs_small h]
      simp [digitChar_nat n h]
    · have h' : 10 ≤ n := Nat.le_of_not_lt h
      rw [Nat.toDigits_of_base_le (by decide) h', digs_big h', List.map_append, ih _ (by omega)]
      simp [digitChar_nat (n % 10) (Nat.mod_lt _ (by decide))]
theorem str_digs (n : Nat) : Str.ofString (toString (n : Int)) = St (digs n) := by
  rw [Str.ofString_eq_toList, ← digs_repr]
  show (⟨((Nat.repr n).toList.map Char.toNat).toArray⟩ : Str) = _
  unfold Nat.repr
  rw [String.toList_ofList]
  rfl
theorem digs_len_pos (n : Nat) : 0 < (digs n).length := by
  by_cases h : n < 10
  · rw [digs_small h]; simp
  · rw [digs_big (Nat.le_of_not_lt h)]; simp
theorem digs_len (k : Nat) : ∀ n, n < 10 ^ k → 0 < k → (digs n).length ≤ k := by
  induction k with
  | zero => intro n _ h; exact absurd h (Nat.lt_irrefl _)
  | succ k ih =>
    intro n hn _
    by_cases h : n < 10
    · rw [digs_small h]; simp
    · have h' : 10 ≤ n := Nat.le_of_not_lt h
      rw [digs_big h', List.length_append]
      have hk : 0 < k := by
        rcases Nat.eq_zero_or_pos k with e | e
        · subst e; simp at hn; omega
        · exact e
      have : n / 10 < 10 ^ k := by rw [Nat.pow_succ] at hn; omega
      have := ih _ this hk
      simp; omega
theorem mul_fold (c : Nat) (n : Nat) : ∀ acc : Array Nat, (List.replicate n #[c]).foldl (· ++ ·) acc = acc ++ (List.replicate n c).toArray := by
  induction n with
  | zero => intro acc; simp
  | succ n ih => intro acc; rw [List.replicate_succ, List.foldl_cons, ih, List.replicate_succ]; apply Array.toList_inj.mp; simp
theorem mul_St (c : Nat) (n : Int) : Txt.mul (St [c]) n = St (List.replicate n.toNat c) := by
  unfold Txt.mul
  by_cases h : n < 1
  · rw [if_pos h, show n.toNat = 0 by omega]; rfl
  · rw [if_neg h]
    by_cases h1 : n = 1
    · subst h1; rfl
    · have e : (n == 1 || (St [c]).length == 0) = false := by
        rw [show (n == 1) = false by simpa using h1]; rfl
      rw [e]
      show (⟨(List.replicate n.toNat #[c]).foldl (· ++ ·) #[]⟩ : Str) = _
      rw [mul_fold]; simp [St]
section
variable {prog : Program} {w : World} {A : Around} {E : Value → Shared → Prop} {s : Shared}
theorem mul_T {c : Nat} {k : Str} {t u : Tok} {i : Int} {Q : Value → Shared → Prop} (hk : k = St [c]) (hlo : -1000 ≤ i) (hhi : i ≤ 1000) (h : ∀ t' k, Q (.str (St (List.replicate i.toNat c)) t') { s with toks := k }) :
    wpAny (model prog w) A (binaryOp .Mult (.str k t) (.int i u)) Q E s := by
  subst hk
  refine KXi.mul (n := 1) (by rfl) (by decide) (by omega) (by omega) fun t' k _ _ => ?_
  rw [mul_St]; exact h t' k
theorem str_T {n : Nat} {t : Tok} {Q : Value → Shared → Prop} (hn : n < 10 ^ 30) (h : Q (.str (St (digs n)) s.toks) { s with toks := s.toks + 1 }) :
    wpAny (model prog w) A (call (.type "str") [.int (n : Int) t]) Q E s := by
  refine P.str_of_int ?_ ?_
  · rw [Int.natAbs_natCast]
    by_cases h0 : n = 0
    · subst h0; decide
    · refine Nat.lt_trans ((Nat.log2_lt h0).mpr (Nat.lt_trans hn (by decide : 10 ^ 30 < 2 ^ 100))) (by decide)
  · have : (toString (n : Int) : Str) = St (digs n) := str_digs n
    rw [this]; exact h
end
theorem pow_le18 {d : Nat} (h : d ≤ 18) : 10 ^ d ≤ 10 ^ 18 := Nat.pow_le_pow_right (by decide) h
end Digs_part
section Comp4_part
set_option maxRecDepth 100000
set_option maxHeartbeats 400000
open PySem.Spec PySem.Calls PyProof.Rows.LCg
section
variable {prog : Program} {w : World} {A : Around} {E : Value → Shared → Prop} {s : Shared}
variable {h₀ : Heap} {L : Addr} {m : Str → Option Value} {env : Env}
variable {elt : PySem.Expr} {ifs : List PySem.Expr} {scope : Scope} {cl : List (Str × Addr)} {Q : Value → Shared → Prop} {news : List (Addr × Obj)}
/-- over a zip of two lists, two names -/
theorem comp_zip {x x₂ : Str} {px px₂ tp : Pos} {kk : Nat} {l1 l2 : Addr} {xs ys : List Value} (Y : Nat → List Value → Prop) (hh : A.handled = none) (hkind : scope.kind = .function) (hx : scope.names.lookup x = some .local) (hx₂ : scope.names.lookup x₂ = some .local) (hxx : x ≠ x₂) (F : Fr h₀ L s.heap m) (N : News h₀ L s.heap news) (hl1 : s.heap.IsList l1 xs.toArray) (hl2 : s.heap.IsList l2 ys.toArray) (hL1 : l1 ≠ L) (hL2 : l2 ≠ L)
    (hlen : xs.length = ys.length) (hn : xs.length ≤ 1000) (hY : Y 0 [])
    (turn : ∀ (s₂ : Shared) i, (∃ h, s₂ = { s with heap := h }) → i < xs.length → CTurn prog w A h₀ L m env elt ifs scope cl s₂ news (fun i m₂ => ∃ v₁ v₂, xs[i]? = some v₁ ∧ ys[i]? = some v₂ ∧ m₂ x = some v₁ ∧ m₂ x₂ = some v₂) Y i)
    (fin : ∀ D h tk ys, Fr h₀ L h m → News h₀ L h ((D, lst ys) :: news) → (∀ p ∈ news, p.1 < D) → Y xs.length ys → Q (.ref D) { s with heap := h, toks := tk }) :
    wpAny (model prog w) A (call (.type "zip") [.ref l1, .ref l2]) (fun xv s₁ => wpAny (model prog w) A (pyIter xv) (fun it s₂ => CompAt prog w A h₀ L m env elt (.Tuple [.Name x px, .Name x₂ px₂] kk tp) ifs scope cl Q it s₂) E s₁) E s := by
  have hlt1 : l1 < s.heap.objs.size := let ⟨_, e, _⟩ := hl1; Heap.lt_size e
  have hlt2 : l2 < s.heap.objs.size := let ⟨_, e, _⟩ := hl2; Heap.lt_size e
  have hLs : L < s.heap.objs.size := F.ns.lt
  have D : ZipApart (s.heap.objs.size + 4) (s.heap.objs.size + 2) (s.heap.objs.size + 3) s.heap.objs.size (s.heap.objs.size + 1) l1 l2 := ktu_apart _ _ _ hlt1 hlt2
  have hmin : min xs.toArray.size ys.toArray.size = xs.length := by simp [hlen]
  refine call_zip_2 hl1 hl2 fun h' hz hTI hTO hi1 hi2 hsz hk => ?_
  refine wpAny_pyIter_zip hz ?_
  have W := WalksT.zip2 (prog := prog) (w := w) hh _ _ _ _ _ _ _ D xs.toArray ys.toArray
  rw [hmin] at W
  refine ⟨s.heap.objs.size + 4, _, _, xs.length, _, _, _, news, _, Y, rfl, KTurns.ofWalksU W.toU, fun s Q E st q => wpAny_pyIter_zip st.1 q, hn, ⟨hz, hTI, ⟨_, _, hTO⟩, hi1, hi2, hl1.at fun o e => hk l1 o e, hl2.at fun o e => hk l2 o e⟩, ?_, ?_, ?_, ?_, F.keeps hk, N.grown hk, hY, ?_, (fun i hi => turn _ i ⟨_, rfl⟩ hi), fun D h tk ys F' N' o hY => fin D h tk ys F' N' o hY⟩
  · intro b hb
    show b < h'.objs.size
    rw [hsz]
    have hb' : b = s.heap.objs.size + 4 ∨ b = s.heap.objs.size + 2 ∨ b = s.heap.objs.size + 3 ∨ b = s.heap.objs.size ∨ b = s.heap.objs.size + 1 ∨ b = l1 ∨ b = l2 := by simpa using hb
    have h1 : @LT.lt Nat _ l1 s.heap.objs.size := hlt1
    have h2 : @LT.lt Nat _ l2 s.heap.objs.size := hlt2
    show @LT.lt Nat _ b _
    rcases hb' with e | e | e | e | e | e | e <;> (rw [e]; omega)
  · intro hI'
    have hb' : L = s.heap.objs.size + 4 ∨ L = s.heap.objs.size + 2 ∨ L = s.heap.objs.size + 3 ∨ L = s.heap.objs.size ∨ L = s.heap.objs.size + 1 ∨ L = l1 ∨ L = l2 := by simpa using hI'
    rcases hb' with e | e | e | e | e | e | e
    · exact ktu_ne 4 hLs e
    · exact ktu_ne 2 hLs e
    · exact ktu_ne 3 hLs e
    · exact Nat.ne_of_lt hLs e
    · exact ktu_ne 1 hLs e
    · exact hL1 e.symm
    · exact hL2 e.symm
  · intro b hb
    have hb' : b = s.heap.objs.size + 4 ∨ b = s.heap.objs.size + 3 ∨ b = s.heap.objs.size ∨ b = s.heap.objs.size + 1 := by simpa using hb
    rcases hb' with rfl | rfl | rfl | rfl
    · exact ktu_new F (Nat.le_add_right _ _)
    · exact ktu_new F (Nat.le_add_right _ _)
    · exact ktu_new F (Nat.le_refl _)
    · exact ktu_new F (Nat.le_add_right _ _)
  · intro p hp hI'
    have hb' : p.1 = s.heap.objs.size + 4 ∨ p.1 = s.heap.objs.size + 3 ∨ p.1 = s.heap.objs.size ∨ p.1 = s.heap.objs.size + 1 := by simpa using hI'
    have hlp := Heap.lt_size (N p hp).1
    rcases hb' with e | e | e | e
    · exact ktu_ne 4 hlp e
    · exact ktu_ne 3 hlp e
    · exact Nat.ne_of_lt hlp e
    · exact ktu_ne 1 hlp e
  · rintro i v C s₁ m' Q' E' ⟨T, vals', rfl, ⟨a, b, ha, hb, rfl⟩, hT⟩ hns hq
    exact asg_pair hh hkind hx hx₂ hxx hns hT fun h₂ m₂ tk q1 q2 k => hq h₂ m₂ tk q1 ⟨a, b, by simpa using ha, by simpa using hb, q2.1, q2.2⟩ k
end
end Comp4_part
section SetAt_part
local macro_rules | `(tactic| walk_at "no key 0") => `(tactic| fail)
set_option maxRecDepth 100000
set_option maxHeartbeats 400000
section
variable {prog : Program} {w : World} {A : Around} {E : Value → Shared → Prop} {s : Shared} {n : Nat}
theorem set_atI {h₀ : Heap} {L D : Addr} {m : Str → Option Value} {news rest : List (Addr × Obj)} {items : Array Value} {t : Tok} {v : Value} {j : Nat} {k : Int} {Q : Unit → Shared → Prop} (hk : k = (j : Int)) (F : Fr h₀ L s.heap m) (N : News h₀ L s.heap news) (hm : (D, listOf items n) ∈ news) (hj : j < items.size) (hsz : items.size ≤ 1000)
    (sub : ∀ p ∈ rest, p ∈ news ∧ p.1 ≠ D)
    (h : ∀ h', Fr h₀ L h' m → News h₀ L h' rest → h'.IsList D (items.setIfInBounds j v) → Q () { s with heap := h' }) : wpAny (model prog w) A (setItem (.ref D) (.int k t) v) Q E s := by
  subst hk
  have z := N _ hm
  refine wpAny_setItem_list (PySem.IsL.isList (n := n) z.1) (by omega) (by omega) (by omega) fun h' hl hs => h h' (F.change hs z.2.1 z.2.2) (fun p hp => ?_) (by rw [Int.toNat_natCast] at hl; exact hl)
  obtain ⟨h1, h2⟩ := sub p hp
  exact ⟨hs.extBut _ _ h2 (N p h1).1, (N p h1).2⟩
theorem get_atK {h₀ : Heap} {L D : Addr} {news : List (Addr × Obj)} {items : Array Value} {u : Tok} {x : Value} {j : Nat} {value slice : PySem.Expr} {Q : Value → Shared → Prop} (N : News h₀ L s.heap news) (hm : (D, listOf items n) ∈ news) (hj : j < 1000) (hx : items.toList[j]? = some x) (h : Q x s)
    (hs : subscripted slice false (.ref D) (.int (j : Int) u) = operate [.ref D, .int (j : Int) u] (getItem (.ref D) (.int (j : Int) u)) := by with_unfolding_all rfl) :
    wpAny (model prog w) A (subscriptTail value slice (.ref D) (.int (j : Int) u)) Q E s := by
  have hl : s.heap.IsList D items := PySem.IsL.isList (n := n) (N _ hm).1
  refine tail_any hl.typeIs slot_list_getitem.lookup (wpAny_getItem_list hl (by omega) (by omega) (x := x) ?_ h) hs
  rw [Int.toNat_natCast]; simpa using hx
end
/-- TxtsAre with one text set anew -/
theorem TxtsAre.set {ys : List Value} {ts : List (List Nat)} (h : TxtsAre ys ts) (j : Nat) (x : List Nat) (t : Tok) : TxtsAre (ys.set j (.str (St x) t)) (ts.set j x) := by
  obtain ⟨l, e, e2⟩ := h
  refine ⟨l.set j (St x, t), ?_, ?_⟩
  · rw [e]; simp [strValues]
  · rw [List.map_set, e2, List.map_set]
theorem TxtsAre.at {ys : List Value} {ts : List (List Nat)} (h : TxtsAre ys ts) {i : Nat} {x : List Nat} (hx : ts[i]? = some x) : ∃ t, ys[i]? = some (.str (St x) t) := by
  have hi : i < ys.length := by rw [h.length]; exact (List.getElem?_eq_some_iff.mp hx).1
  obtain ⟨x', t, e1, e2⟩ := h.get (List.getElem?_eq_getElem hi)
  rw [hx] at e1
  injection e1 with e1
  exact ⟨t, by rw [List.getElem?_eq_getElem hi, e2, e1]⟩
end SetAt_part
section Slc_part
open PySem.Spec PySem.Calls PySem.Builtin PySem.Builtin.Str
theorem slice_from (l : List Nat) (k : Nat) (hk : k ≤ l.length) : Txt.slice (St l) (some (k : Int)) none = St (l.drop k) := by
  have e0 : strSliceIndices (some (k : Int)) none 1 l.length = strSliceIndices (some (k : Int)) (some (l.length : Int)) 1 l.length := by
    simp only [strSliceIndices]
    have : max (0 : Int) (min (if (l.length : Int) < 0 then (l.length : Int) + l.length else (l.length : Int)) l.length) = l.length := by
      rw [if_neg (by omega)]; omega
    simp only [show (1 : Int) > 0 by decide, if_true, this]
  have e : Txt.slice (St l) (some (k : Int)) none = Txt.slice (St l) (some (k : Int)) (some (l.length : Int)) := by
    unfold Txt.slice
    rw [st_length, e0]
  rw [e, slice_St l k l.length hk, List.take_of_length_le (by simp)]
theorem slice_to (l : List Nat) (k : Nat) : Txt.slice (St l) none (some (k : Int)) = St (l.take k) := by
  have e : Txt.slice (St l) none (some (k : Int)) = Txt.slice (St l) (some ((0 : Nat) : Int)) (some (k : Int)) := by
    have e0 : strSliceIndices none (some (k : Int)) 1 l.length = strSliceIndices (some ((0 : Nat) : Int)) (some (k : Int)) 1 l.length := by
      simp only [strSliceIndices]
      have : max (0 : Int) (min (if ((0 : Nat) : Int) < 0 then ((0 : Nat) : Int) + l.length else ((0 : Nat) : Int)) l.length) = 0 := by
        rw [if_neg (by omega)]; omega
      simp only [show (1 : Int) > 0 by decide, if_true, this]
    unfold Txt.slice
    rw [st_length, e0]
  rw [e, slice_St l 0 k (by omega)]
  simp
section
variable {M : Model} {A : Around} {E : Value → Shared → Prop} {s : Shared} {h₀ : Heap} {L : Addr} {m : Str → Option Value}
/-- a term's value named ahead of what follows -/
theorem mono_str {t : Sem Value} {Q : Value → Shared → Prop} (x : List Nat) (F : Fr h₀ L s.heap m) (a : wpAny M A t (fun v s' => Held (∃ t' k h4, v = .str (St x) t' ∧ s' = { s with heap := h4, toks := k } ∧ Fr h₀ L h4 m)) E s)
    (b : ∀ t' k h4, Fr h₀ L h4 m → Q (.str (St x) t') { s with heap := h4, toks := k }) : wpAny M A t Q E s :=
  wpAny_mono a (fun v s' ⟨t', k, h4, e1, e2, F4⟩ => by subst e1 e2; exact b t' k h4 F4) fun _ _ e => e
/-- the same for an int -/
theorem mono_int {t : Sem Value} {Q : Value → Shared → Prop} (x : Int) (F : Fr h₀ L s.heap m) (a : wpAny M A t (fun v s' => Held (∃ t' k h4, v = .int x t' ∧ s' = { s with heap := h4, toks := k } ∧ Fr h₀ L h4 m)) E s)
    (b : ∀ t' k h4, Fr h₀ L h4 m → Q (.int x t') { s with heap := h4, toks := k }) : wpAny M A t Q E s :=
  wpAny_mono a (fun v s' ⟨t', k, h4, e1, e2, F4⟩ => by subst e1 e2; exact b t' k h4 F4) fun _ _ e => e
/-- an if that returns a text where C holds, and does nothing where it does not -/
theorem mono_if {t : Sem Flow} {Q : Flow → Shared → Prop} (C : Prop) (x : List Nat)
    (a : wpAny M A t (fun f s' => Held ((f = .next ∧ ¬ C ∧ ∃ k, s' = { s with toks := k }) ∨ (C ∧ ∃ t' k h4 m4, f = .ret (.str (St x) t') ∧ s' = { s with heap := h4, toks := k } ∧ Fr h₀ L h4 m4))) E s)
    (b1 : ¬ C → ∀ k, Q .next { s with toks := k }) (b2 : C → ∀ t' k h4 m4, Fr h₀ L h4 m4 → Q (.ret (.str (St x) t')) { s with heap := h4, toks := k }) : wpAny M A t Q E s :=
  wpAny_mono a (fun f s' h => by
    rcases h.out with ⟨e1, hC, k, e2⟩ | ⟨hC, t', k, h4, m4, e1, e2, F4⟩
    · subst e1 e2; exact b1 hC k
    · subst e1 e2; exact b2 hC t' k h4 m4 F4) fun _ _ e => e
end
end Slc_part
local macro_rules | `(tactic| ktr_rel) => `(tactic| ((try simp only [st_length, List.length_cons, List.length_nil]); omega))
local macro_rules | `(tactic| k_mem) => `(tactic| first | assumption | exact List.Mem.head _ | (refine' List.Mem.tail _ ?_; k_mem))
local macro_rules | `(tactic| walk_at "call builtin:len") => `(tactic| (k_here; (with_reducible show wpAny _ _ (call (Value.builtin "len") [Value.str (St _) _]) _ _ _); k_dflt (refine' PyProof.Rows.len_str ?z ?_; (case z => ktr_rel); k_whole)))
local macro_rules | `(tactic| k_inst) => `(tactic| (refine' InstAt.base ?F ?h1 ?h2; (case F => k_asm); (case h1 => repeat (first | with_reducible assumption | refine Fr.keep (by assumption) _ _ ?_)); (case h2 => repeat (first | with_reducible assumption | refine Fr.keep (by assumption) _ _ ?_))))
local macro_rules | `(tactic| walk_at "call builtin:list.append") => `(tactic| (k_here; (with_reducible show wpAny _ _ (call (Value.builtin _) [Value.ref _, _]) _ _ _); k_dflt (refine' append_K ?k1 ?k2 ?k3 ?_ ?z; (case k1 => k_asm); (case k2 => k_asm); (case k3 => k_upd); (case z => (show _ ≤ 2 ^ 24; omega)); k_whole); intro h' F' N'; (try k_sweep)))
section C_s1_part
local macro_rules | `(tactic| walk_at "no key 0") => `(tactic| fail)
set_option maxRecDepth 100000
set_option maxHeartbeats 8000000
set_option rowWalk.seconds 0
theorem init_C_s1 : (PySem.Challenge.rw_pb0263_01.Holds → True) ∧ (Mine.hd.heap_1 = Mine.hd.heap_1) := by
  k_fill; exact ⟨fun _ => trivial, rfl⟩
/-- the signs that the law's pictures hold -/
noncomputable def AL : List Nat := [90, 42, 36, 43, 45, 57, 44, 46]
section
local macro_rules | `(tactic| walk_at "subscriptTail Name Slice str ref") => `(tactic| ((with_reducible show wpAny _ _ (subscriptTail _ (Expr.Slice (some _) (some _) none _) _ _) _ _ _); (with_reducible rename Fr _ _ _ _ => F'); (with_reducible rename News _ _ _ _ => N'); (refine slice_strN_ss (hsz := ?hsz) (s := ⟨_, _, _, _, _⟩) F' N' ?_); (case hsz => (simp [st_length, sizeLine_eq]; omega)); intro _ _ _ _ _))
theorem signs_hold : ∀ x ∈ AL, (Builtin.Str.occurrences (Str.ofString "ABPSVXZ90/,.+-*$") (St [x]) 0 (Str.ofString "ABPSVXZ90/,.+-*$").length 1).isEmpty = false := by decide +kernel
theorem lit_CR : Str.ofString "CR" = St [67, 82] := by decide +kernel
theorem lit_DB : Str.ofString "DB" = St [68, 66] := by decide +kernel
theorem lit_open : Str.ofString "(" = St [40] := by decide +kernel
theorem al_getD {tx : List Nat} {i : Nat} (ha : ∀ x ∈ tx, x ∈ AL) (hi : i < tx.length) : tx.getD i 0 ∈ AL := by
  rw [List.getD_eq_getElem?_getD, List.getElem?_eq_getElem hi]; exact ha _ (List.getElem_mem hi)
theorem drop_getD {tx : List Nat} {i : Nat} (hi : i < tx.length) : tx.drop i = tx.getD i 0 :: tx.drop (i + 1) := by
  rw [List.getD_eq_getElem?_getD, List.getElem?_eq_getElem hi]; exact List.drop_eq_getElem_cons hi
theorem c_sign_at (w : World) (h : Heap) (tx : List Nat) (a : Int) (t1 t2 : Tok) (ht : tx.length ≤ 30) (h0 : 0 ≤ a) (hi : a < tx.length) (ha : ∀ x ∈ tx, x ∈ AL) :
    Pure w 4 152 [.str (St tx) t1, .int a t2] h (fun v new => new = [] ∧ ∃ t, v = .str (St [tx.getD a.toNat 0]) t) := by
  obtain ⟨i, rfl⟩ := Int.eq_ofNat_of_zero_le h0
  have hi : i < tx.length := by omega
  rw [Int.toNat_natCast]
  have e : Txt.slice (St tx) (some (i : Int)) (some ((i : Int) + 2)) = St ((tx.drop i).take 2) := by
    have := slice_St tx i (i + 2) (by omega)
    simpa using this
  have hx := al_getD ha hi
  have hlen : (St tx).length = tx.length := st_length tx
  refine Pure.enter (by k_is) (by k_is) (by exact rfl) (by exact locs rfl) (by decide) ?_ (by exact rfl) (by exact rfl) (by exact rfl) (by decide)
  intro mean mg mb dp un gd outer A₀ base hp₁ gs₁ dr₁ tk₁ os₁ L' Q mF AF EF F' N' B' X' T' hdp hun hret
  ktr_unf
  k_steps
  · exfalso
    rename (List.any _ _ = _) => hany
    rw [e, drop_getD hi] at hany
    simp only [lit_CR, lit_DB, List.any_cons, List.any_nil, st_beq, Bool.or_eq_true, beq_iff_eq, List.take_succ_cons, List.cons.injEq, Bool.or_false] at hany
    simp only [AL, List.mem_cons, List.not_mem_nil, or_false] at hx
    omega
  · exfalso
    rename (List.isEmpty _ = _) => hocc
    rw [item_St tx i hi, signs_hold _ hx] at hocc
    cases hocc
  · exact hret _ [] _ _ _ (by k_asm) (fun _ hp => nomatch hp) ⟨rfl, _, congrArg (Value.str · _) (item_St tx i hi)⟩
theorem c_count_at (w : World) (h : Heap) (tx : List Nat) (a : Int) (t1 t2 : Tok) (ht : tx.length ≤ 30) (h0 : 0 ≤ a) (hi : a ≤ tx.length) (ha : ∀ x ∈ tx, x ∈ AL) :
    Pure w 4 157 [.str (St tx) t1, .int a t2] h (fun v new => ∃ T t3 t4, v = .ref T ∧ new = [(T, ({ cls := .type "tuple", data := .seq #[.int 1 t3, .int a t4] } : Obj))]) := by
  obtain ⟨i, rfl⟩ := Int.eq_ofNat_of_zero_le h0
  have hi : i ≤ tx.length := by omega
  have e : Txt.slice (St tx) (some (i : Int)) (some ((i : Int) + 1)) = St ((tx.drop i).take 1) := by
    have := slice_St tx i (i + 1) (by omega)
    simpa using this
  refine Pure.enter (by k_is) (by k_is) (by exact rfl) (by exact locs rfl) (by decide) ?_ (by exact rfl) (by exact rfl) (by exact rfl) (by decide)
  intro mean mg mb dp un gd outer A₀ base hp₁ gs₁ dr₁ tk₁ os₁ L' Q mF AF EF F' N' B' X' T' hdp hun hret
  ktr_unf
  k_steps
  · exact hret _ _ _ _ _ (by k_asm) (by k_asm) ⟨_, _, _, rfl, rfl⟩
  · exfalso
    rename ((_ != _) = _) => hne
    rw [e] at hne
    by_cases hi' : i < tx.length
    · have hx := al_getD ha hi'
      rw [drop_getD hi'] at hne
      simp only [lit_open, bne, st_beq, List.take_succ_cons, List.take_zero, Bool.not_eq_false', beq_iff_eq, List.cons.injEq, and_true] at hne
      simp only [AL, List.mem_cons, List.not_mem_nil, or_false] at hx
      omega
    · rw [List.drop_eq_nil_of_le (by omega)] at hne
      simp [lit_open, bne, st_beq] at hne
end
end C_s1_part
section C_s2_part
local macro_rules | `(tactic| walk_at "no key 0") => `(tactic| fail)
local macro_rules | `(tactic| walk_at "no key 1") => `(tactic| fail)
local macro_rules | `(tactic| walk_at "no key 2") => `(tactic| fail)
set_option maxRecDepth 100000
set_option maxHeartbeats 300000
set_option rowWalk.seconds 0
theorem init_C_s2 : (PySem.Challenge.rw_pb0263_01.Holds → True) ∧ (Mine.hd.heap_1 = Mine.hd.heap_1) := by
  k_fill; exact ⟨fun _ => trivial, rfl⟩
/-- what a Sign object's dict holds -/
noncomputable abbrev signD (w : World) (c : Nat) (a : Int) (k1 k2 k3 t1 t2 t3 : Tok) : Obj :=
  dictOf [⟨PyData.keyHash w.params (Str.ofString "sign"), .str (Str.ofString "sign") k1, .str (St [c]) t1⟩, ⟨PyData.keyHash w.params (Str.ofString "count"), .str (Str.ofString "count") k2, .int 1 t2⟩, ⟨PyData.keyHash w.params (Str.ofString "at"), .str (Str.ofString "at") k3, .int a t3⟩] 3
inductive SignIn (w : World) (objs : List (Addr × Obj)) (v : Value) (c : Nat) : Prop
  | mk (x dx : Addr) (a : Int) (k1 k2 k3 t1 t2 t3 : Tok) (e : v = .ref x) (h1 : (x, instObj 141 dx) ∈ objs) (h2 : (dx, signD w c a k1 k2 k3 t1 t2 t3) ∈ objs)
noncomputable def SignsIn (w : World) (objs : List (Addr × Obj)) : List Value → List Nat → Prop
  | [], [] => True
  | v :: vs, c :: cs => SignIn w objs v c ∧ SignsIn w objs vs cs
  | _, _ => False
theorem SignIn.mono {w : World} {o o' : List (Addr × Obj)} (k : ∀ p ∈ o, p ∈ o') {v : Value} {c : Nat} : SignIn w o v c → SignIn w o' v c := by
  rintro ⟨x, dx, a, k1, k2, k3, t1, t2, t3, e, h1, h2⟩
  exact ⟨x, dx, a, k1, k2, k3, t1, t2, t3, e, k _ h1, k _ h2⟩
theorem SignsIn.mono {w : World} {o o' : List (Addr × Obj)} (k : ∀ p ∈ o, p ∈ o') : ∀ {vs : List Value} {cs : List Nat}, SignsIn w o vs cs → SignsIn w o' vs cs := by
  intro vs
  induction vs with
  | nil => intro cs h; cases cs with
    | nil => trivial
    | cons c cs => exact h
  | cons v vs ih => intro cs h; cases cs with
    | nil => exact h
    | cons c cs => exact ⟨h.1.mono k, ih h.2⟩
theorem SignsIn.snoc {w : World} {o : List (Addr × Obj)} {v : Value} {c : Nat} (hv : SignIn w o v c) : ∀ {vs : List Value} {cs : List Nat}, SignsIn w o vs cs → SignsIn w o (vs ++ [v]) (cs ++ [c]) := by
  intro vs
  induction vs with
  | nil => intro cs h; cases cs with
    | nil => exact ⟨hv, trivial⟩
    | cons c cs => exact h.elim
  | cons v vs ih => intro cs h; cases cs with
    | nil => exact h.elim
    | cons c cs => exact ⟨h.1, ih h.2⟩
theorem signs_end {w : World} {h₀ h' : Heap} {L l T9 x dx : Addr} {s : Shared} {o9 : Obj} {its : Array Value} {n i c tk : Nat} {objs : List (Addr × Obj)} {tx : List Nat} {a : Int} {k1 k2 k3 t1 t2 t3 t' : Tok} {stored : List Str} {m₀ m' : Str → Option Value}
    {cc : (Nat × Tok) × (Array Value × Nat) × List (Addr × Obj)}
    (F : Fr h₀ L h' m') (N : News h₀ L h' ((x, instObj 141 dx) :: (dx, signD w c a k1 k2 k3 t1 t2 t3) :: (T9, o9) :: (l, listOf (its.push (.ref x)) (n + 1)) :: objs))
    (hcc : cc.1.1 = i) (hi : i < tx.length) (hc : c = tx.getD i 0) (hsz : its.size = i) (hS : SignsIn w objs its.toList (tx.take i)) (hoff : ∀ q ∈ objs, q.1 ≠ l) (h1 : @Ne Nat x l) (h2 : @Ne Nat dx l)
    (hm : m' (Str.ofString "at") = some (.int ((i + 1 : Nat) : Int) t')) (hr : ∀ z, z ≠ Str.ofString "at" → stored.contains z = false → m' z = m₀ z) :
    KswEnd h₀ L s (fun c : (Nat × Tok) × (Array Value × Nat) × List (Addr × Obj) => (l, listOf c.2.1.1 c.2.1.2) :: c.2.2) (fun c => [(Str.ofString "at", .int (c.1.1 : Int) c.1.2)]) (fun _ => True) stored m₀
      (fun c => c.1.1 ≤ tx.length ∧ c.2.1.1.size = c.1.1 ∧ (∀ q ∈ c.2.2, q.1 ≠ l) ∧ SignsIn w c.2.2 c.2.1.1.toList (tx.take c.1.1)) (fun c => tx.length - c.1.1) cc { s with heap := h', toks := tk } := by
  refine ksw_end ((i + 1, t'), (its.push (.ref x), n + 1), (x, instObj 141 dx) :: (dx, signD w c a k1 k2 k3 t1 t2 t3) :: objs) F N ?_ trivial ?_ ?_ ⟨hi, ?_, ?_, ?_⟩ ?_
  · intro p hp
    simp only [List.mem_cons] at hp ⊢
    rcases hp with h | h | h | h
    · exact .inr (.inr (.inr (.inl h)))
    · exact .inl h
    · exact .inr (.inl h)
    · exact .inr (.inr (.inr (.inr h)))
  · simp only [List.mem_singleton, forall_eq]; exact hm
  · intro z hz hs
    simp only [List.mem_singleton, forall_eq] at hz
    exact hr z hz hs
  · simp [hsz]
  · intro q hq
    simp only [List.mem_cons] at hq
    rcases hq with h | h | h
    · rw [h]; exact h1
    · rw [h]; exact h2
    · exact hoff q h
  · show SignsIn w _ (its.push (.ref x)).toList (tx.take (i + 1))
    have e : tx.take (i + 1) = tx.take i ++ [c] := by
      rw [hc, List.take_add_one, List.getD_eq_getElem?_getD, List.getElem?_eq_getElem hi]; rfl
    rw [e, Array.toList_push]
    exact SignsIn.snoc ⟨x, dx, a, k1, k2, k3, t1, t2, t3, rfl, .head _, .tail _ (.head _)⟩ (hS.mono fun p hp => .tail _ (.tail _ hp))
  · show tx.length - (i + 1) < tx.length - cc.1.1
    omega
section
local macro_rules | `(tactic| walk_at "exec While Compare cons nil") => `(tactic| refine Held.out ?_)
local macro_rules | `(tactic| walk_at "call ref") => `(tactic| (k_here; (fail_if_success with_reducible show wpAny _ _ (call (Value.ref 141) _) _ _ _); refine Held.out ?_))
theorem c_signs_of (w : World) (h : Heap) (tx : List Nat) (t1 : Tok) (ht : tx.length ≤ 30) (ha : ∀ x ∈ tx, x ∈ AL) :
    Pure w 8 164 [.str (St tx) t1] h (fun v new => ∃ l its n objs, v = .ref l ∧ new = (l, listOf its n) :: objs ∧ SignsIn w objs its.toList tx) := by
  have hL : (St tx).length = tx.length := st_length tx
  refine Pure.enter (by k_is) (by k_is) (by exact rfl) (by exact locs rfl) (by decide) ?_ (by exact rfl) (by exact rfl) (by exact rfl) (by decide)
  intro mean mg mb dp un gd outer A₀ base hp₁ gs₁ dr₁ tk₁ os₁ L' Q mF AF EF F' N' B' X' T' hdp hun hret
  ktr_unf
  k_steps
  refine ⟨?_⟩
  refine' while_loop (β := Addr) (σ := (Nat × Tok) × (Array Value × Nat) × List (Addr × Obj)) _ (fun l c => (l, listOf c.2.1.1 c.2.1.2) :: c.2.2) (fun l c => [("at", .int (c.1.1 : Int) c.1.2)]) ["sign", "count", "end"] (fun l c => c.1.1 ≤ tx.length ∧ c.2.1.1.size = c.1.1 ∧ (∀ q ∈ c.2.2, q.1 ≠ l) ∧ SignsIn w c.2.2 c.2.1.1.toList (tx.take c.1.1)) (fun c => tx.length - c.1.1) ((0, _), (#[], 0), []) ?F ?N ?hk ?hp ?turn
  case F => k_asm
  case hk => simp only [List.mem_singleton, forall_eq]; exact rfl
  case N => 
    refine cb_drop (by assumption) ?_
    intro p hp
    rw [List.mem_singleton.mp hp]
    refine List.Mem.tail _ ?_
    exact List.Mem.head _
  case hp => exact ⟨Nat.zero_le _, rfl, (fun q hq => nomatch hq), trivial⟩
  case turn =>
    rintro ⟨⟨i, ti⟩, ⟨its, n⟩, objs⟩ u h tk ⟨hi, hsz, hoff, hS⟩ F N
    dsimp only [kstB] at F N hi hsz hoff hS ⊢
    k_steps
    · refine ⟨?_⟩
      (refine' Pure.use (c_sign_at _ _ _ _ _ _ ?p1 ?p2 ?p3 ?p4) ?k1 ?k2 ?k3 ?k4 ?k5 ?kK ?kd ?ku ?_; (case p1 => ktr_rel); (case p2 => ktr_rel); (case p3 => ktr_rel); (case p4 => assumption); (case k1 => k_asm); (case k2 => k_asm); (case k3 => k_asm); (case k4 => k_asm); (case k5 => k_asm); (case kK => exact rfl); (case kd => omega); (case ku => omega); intro v9 new9 h9 tk9 F9 N9 D9 P9; obtain ⟨e9, t9, q9⟩ := P9; subst e9 q9; clear D9; simp only [List.nil_append] at N9; (try dsimp only); (try k_fold))
      k_steps
      refine ⟨?_⟩
      (refine' Pure.use (c_count_at _ _ _ _ _ _ ?p1 ?p2 ?p3 ?p4) ?k1 ?k2 ?k3 ?k4 ?k5 ?kK ?kd ?ku ?_; (case p1 => ktr_rel); (case p2 => ktr_rel); (case p3 => ktr_rel); (case p4 => assumption); (case k1 => k_asm); (case k2 => k_asm); (case k3 => k_asm); (case k4 => k_asm); (case k5 => k_asm); (case kK => exact rfl); (case kd => omega); (case ku => omega); intro v9 new9 h9 tk9 F9 N9 D9 P9; obtain ⟨T9, t3, t4, e9, q9⟩ := P9; subst e9 q9; simp only [List.cons_append, List.nil_append] at N9; simp only [List.forall_mem_singleton, LCg.Off1] at D9; (try dsimp only); (try k_fold))
      k_steps
      (try dsimp only)
      refine ⟨?_⟩
      rename News _ _ _ ((_, instObj 141 _) :: _) => NN
      refine signs_end (i := i) (by k_asm) NN rfl (by omega) rfl hsz hS hoff (by omega) (by omega) rfl ?_
      intro z hz hs
      have hs' := hs
      simp only [List.contains_cons, List.contains_nil, Bool.or_false, Bool.or_eq_false_iff, beq_eq_false_iff_ne, ne_eq] at hs'
      simp +zetaDelta only [hz, hs'.1, hs'.2, hs, if_false, Bool.false_eq_true]
    · (try dsimp only)
      have e : i = tx.length := by omega
      subst e
      rw [List.take_length] at hS
      exact hret _ _ _ _ _ (by k_asm) (by k_asm) ⟨_, _, _, _, rfl, rfl, hS⟩
end
end C_s2_part
section C_s3_part
set_option maxRecDepth 100000
set_option maxHeartbeats 300000
set_option rowWalk.seconds 0
theorem init_C_s3 : (PySem.Challenge.rw_pb0263_01.Holds → True) ∧ (Mine.hd.heap_1 = Mine.hd.heap_1) := by
  k_fill; exact ⟨fun _ => trivial, rfl⟩
noncomputable def rlePush (acc : List (Nat × Nat)) (c : Nat) : List (Nat × Nat) := match acc.getLast? with
  | some (d, n) => if d = c then acc.dropLast ++ [(d, n + 1)] else acc ++ [(c, 1)]
  | none => [(c, 1)]
noncomputable def SymIn (objs : List (Addr × Obj)) (v : Value) (p : Nat × Nat) : Prop := ∃ T t1 t2, v = .ref T ∧ (T, tupObj [.str (St [p.1]) t1, .int (p.2 : Int) t2]) ∈ objs
noncomputable def SymsIn (objs : List (Addr × Obj)) (vs : List Value) (ps : List (Nat × Nat)) : Prop := vs.length = ps.length ∧ ∀ (i : Nat) (v : Value) (p : Nat × Nat), vs[i]? = some v → ps[i]? = some p → SymIn objs v p
/-- a Sign that stands in a heap -/
inductive SignAt (w : World) (h : Heap) (v : Value) (c : Nat) : Prop
  | mk (x dx : Addr) (a : Int) (k1 k2 k3 t1 t2 t3 : Tok) (e : v = .ref x) (h1 : h.get? x = some (instObj 141 dx)) (h2 : h.get? dx = some (signD w c a k1 k2 k3 t1 t2 t3))
noncomputable def SignsAt (w : World) (h : Heap) : List Value → List Nat → Prop
  | [], [] => True
  | v :: vs, c :: cs => SignAt w h v c ∧ SignsAt w h vs cs
  | _, _ => False
theorem SymIn.mono {o o' : List (Addr × Obj)} (k : ∀ p ∈ o, p ∈ o') {v : Value} {p : Nat × Nat} : SymIn o v p → SymIn o' v p := by
  rintro ⟨T, t1, t2, e, h⟩
  exact ⟨T, t1, t2, e, k _ h⟩
theorem SymsIn.push {o o' : List (Addr × Obj)} (k : ∀ p ∈ o, p ∈ o') {vs : List Value} {ps : List (Nat × Nat)} {v : Value} {p : Nat × Nat} (h : SymsIn o vs ps) (hv : SymIn o' v p) : SymsIn o' (vs ++ [v]) (ps ++ [p]) := by
  refine ⟨by simp [h.1], fun i u q hu hq => ?_⟩
  by_cases hi : i < vs.length
  · rw [List.getElem?_append_left hi] at hu
    rw [List.getElem?_append_left (by rw [← h.1]; exact hi)] at hq
    exact (h.2 i u q hu hq).mono k
  · rw [List.getElem?_append_right (by omega)] at hu
    rw [List.getElem?_append_right (by rw [← h.1]; omega)] at hq
    have e : i - vs.length = 0 := by
      rcases Nat.eq_zero_or_pos (i - vs.length) with e | e
      · exact e
      · rw [List.getElem?_eq_none (show [v].length ≤ i - vs.length by show 1 ≤ _; omega)] at hu; cases hu
    rw [e] at hu
    rw [← h.1, e] at hq
    cases hu; cases hq
    exact hv
theorem SymsIn.last {o o' : List (Addr × Obj)} (k : ∀ p ∈ o, p ∈ o') {vs : List Value} {ps : List (Nat × Nat)} {v : Value} {p q : Nat × Nat} (h : SymsIn o vs (ps ++ [q])) (hv : SymIn o' v p) : SymsIn o' (vs.set ps.length v) (ps ++ [p]) := by
  have hl : vs.length = ps.length + 1 := by simpa using h.1
  refine ⟨by simp [hl], fun i u q' hu hq => ?_⟩
  by_cases hi : i = ps.length
  · subst hi
    rw [List.getElem?_set_self (by omega)] at hu
    rw [List.getElem?_append_right (Nat.le_refl _), Nat.sub_self] at hq
    cases hu; cases hq
    exact hv
  · rw [List.getElem?_set_ne (Ne.symm hi)] at hu
    have hi' : i < ps.length := by
      rcases Nat.lt_or_ge i (ps.length + 1) with h' | h'
      · omega
      · rw [List.getElem?_eq_none (by omega)] at hu; cases hu
    rw [List.getElem?_append_left hi'] at hq
    exact (h.2 i u q' hu (by rw [List.getElem?_append_left hi']; exact hq)).mono k
theorem unr_end_syms {h₀ : Heap} {L I D J l : Addr} {oD oJ oI ol : Obj} {objs : List (Addr × Obj)} {rest : (Str → Option Value) → List (Addr × Obj) → Prop} {s₁ : Shared} {h' : Heap} {tk : Nat} {m' : Str → Option Value} (F : Fr h₀ L h' m') (N : News h₀ L h' ((D, oD) :: (J, oJ) :: (I, oI) :: (l, ol) :: objs))
    (hD : @Ne Nat D I) (hl : @Ne Nat l I) (hoI : ∀ q ∈ objs, q.1 ≠ I) (r : rest m' ((l, ol) :: (D, oD) :: objs)) : UnrEndW h₀ L s₁ [(I, oI)] rest { s₁ with heap := h', toks := tk } := by
  refine unr_end1 F N _ (.tail _ (.tail _ (.head _))) (fun p hp => ?_) (fun p hp => ?_) r
  · simp only [List.mem_cons] at hp ⊢
    rcases hp with h | h | h
    · exact .inr (.inr (.inr (.inl h)))
    · exact .inl h
    · exact .inr (.inr (.inr (.inr h)))
  · simp only [List.mem_cons] at hp
    rcases hp with h | h | h
    · rw [h]; exact hl
    · rw [h]; exact hD
    · exact hoI p h
section
local macro_rules | `(tactic| walk_at "compareOp NotEq ref ref") => `(tactic| (k_here; k_dflt (refine' ne_nil ?k1 ?k2 ?k3 ?_; (case k1 => is_list); (case k2 => is_list); (case k3 => k_units); k_whole)))
local macro_rules | `(tactic| walk_at "subscriptTail") => `(tactic| (k_here; (with_reducible show wpAny _ _ (subscriptTail _ _ (Value.ref _) (Value.int (-1) _)) _ _ _); k_dflt (refine' get_neg1K ?k1 ?k2 ?k3 ?k4 ?_ ?k6; (case k1 => k_asm); (case k2 => k_mem); (case k3 => assumption); (case k4 => assumption); (case k6 => with_unfolding_all rfl); k_whole)))
local macro_rules | `(tactic| walk_at "setItem ref int ref") => `(tactic| (k_here; (with_reducible show wpAny _ _ (setItem (Value.ref _) (Value.int (-1) _) _) _ _ _); k_dflt (refine' set_neg1K ?k1 ?k2 ?k3 ?k4 ?_; (case k1 => k_asm); (case k2 => k_asm); (case k3 => assumption); (case k4 => k_upd); k_whole); intro h' F' N'))
local macro_rules | `(tactic| walk_at "UnrPostW") => `(tactic| refine Held.out ?_)
local macro_rules | `(tactic| walk_at "UnrEndW") => `(tactic| refine Held.out ?_)
local macro_rules | `(tactic| walk_at "exec For Name Name cons nil") => `(tactic| (k_here; (rename Fr _ _ _ _ => lF'); (with_unfolding_all refine' For_turns lF' ?_; k_whole)))
local macro_rules | `(tactic| walk_at "pyIter ref") => `(tactic| refine Held.out ?_)
theorem c_symbols_of (w : World) (h : Heap) (tx : List Nat) (l : Addr) (vs : List Value) (ht : tx.length ≤ 30) (hl : h.IsList l vs.toArray) (hS : SignsAt w h vs tx) :
    Pure w 8 171 [.ref l] h (fun v new => ∃ l its n objs, v = .ref l ∧ new = (l, listOf its n) :: objs ∧ SymsIn objs its.toList (tx.foldl rlePush [])) := by
  refine Pure.enter (by k_is) (by k_is) (by exact rfl) (by exact locs rfl) (by decide) ?_ (by exact rfl) (by exact rfl) (by exact rfl) (by decide)
  intro mean mg mb dp un gd outer A₀ base hp₁ gs₁ dr₁ tk₁ os₁ L' Q mF AF EF F' N' B' X' T' hdp hun hret
  ktr_unf
  k_steps
  refine ⟨?_⟩
  refine base_turns rfl (by k_asm) (by k_asm) (by k_asm) ?_
  intro I hI
  k_lt hI
  refine' rest_loopB (β := Addr) (σ := (Array Value × Nat) × List (Addr × Obj) × List (Nat × Nat)) _ (fun l c => []) (fun l c => (l, listOf c.1.1 c.1.2) :: c.2.1) ["one"]
    (fun l xs c => ∃ rest cs, xs = rest.map Itm.val ∧ SignsAt w h rest cs ∧ c.2.2.length + cs.length ≤ 30 ∧ SymsIn c.2.1 c.1.1.toList c.2.2 ∧ (∀ q ∈ c.2.1, q.1 ≠ l) ∧ (∀ q ∈ c.2.1, q.1 ≠ I) ∧ cs.foldl rlePush c.2.2 = tx.foldl rlePush []) ((#[], 0), [], []) ?hm rfl ?hR ?nil ?cons
  case hm => intro p hp; cases hp
  case hR => exact ⟨vs, tx, rfl, hS, by simpa using ht, ⟨rfl, fun i v p h => by simp at h⟩, (fun q hq => nomatch hq), (fun q hq => nomatch hq), rfl⟩
  case nil =>
    rintro ⟨⟨its, n⟩, objs, acc⟩ u h tk ⟨rest, cs, hxs, hS, hlen, hY, hoff, hoI, hacc⟩ F N
    dsimp only [kstB] at *
    cases rest with
    | cons y rest => cases hxs
    | nil =>
      cases cs with
      | cons c cs => exact hS.elim
      | nil =>
        k_steps
        have hacc : acc = tx.foldl rlePush [] := hacc
        exact hret _ _ _ _ _ (by k_asm) (by k_asm) ⟨_, _, _, _, rfl, rfl, hacc ▸ hY⟩
  case cons =>
    rintro ⟨⟨its, n⟩, objs, acc⟩ u a r ⟨rest, cs, hxs, hS, hlen, hY, hoff, hoI, hacc⟩
    cases rest with
    | nil => cases hxs
    | cons y rest =>
      injection hxs with e1 e2
      subst e1 e2
      cases cs with
      | nil => exact hS.elim
      | cons c cs =>
      obtain ⟨⟨x, dx, a, k1, k2, k3, t1, t2, t3, rfl, hx, hdx⟩, hS⟩ := hS
      rintro v h tk rfl F
      ktu_objs
      dsimp only [kstB] at *
      have hsz : its.size = acc.length := by simpa using hY.1
      rcases List.eq_nil_or_concat acc with hnil | ⟨acc', ⟨d, k⟩, hcat⟩
      · subst hnil
        have hz : its.size = 0 := hsz
        k_steps
        refine ⟨?_⟩
        dsimp only [UnrPostW]
        rename News _ _ _ ((_, _) :: (_, _) :: (I, _) :: _) => NN
        refine' unr_end_syms (by k_asm) NN (by omega) (by omega) hoI ⟨trivial, ⟨((_, _), _ :: _, [(c, 1)]), ?hm, ?hr, rfl, rest, cs, rfl, hS, ?a1, ?a2, ?a3, ?a4, ?a5⟩⟩
        case hm => intro p hp; cases hp
        case hr =>
          intro z _ hs
          have hs' := hs
          simp only [List.contains_cons, List.contains_nil, Bool.or_false, beq_eq_false_iff_ne, ne_eq] at hs'
          simp +zetaDelta only [hs', hs, if_false, Bool.false_eq_true]
        case a1 => simp only [List.length_cons, List.length_nil] at hlen ⊢; omega
        case a2 =>
          show SymsIn _ (its.push _).toList [(c, 1)]
          rw [Array.toList_push]
          exact SymsIn.push (ps := []) (fun p hp => .tail _ hp) hY ⟨_, _, _, rfl, .head _⟩
        case a3 => exact List.forall_mem_cons.mpr ⟨neN (by omega), hoff⟩
        case a4 => exact List.forall_mem_cons.mpr ⟨neN (by omega), hoI⟩
        case a5 => exact hacc
      · have hj : its.size = acc'.length + 1 := by rw [hsz, hcat]; simp
        obtain ⟨v1, hv1⟩ : ∃ v1, its[acc'.length]? = some v1 := ⟨_, Array.getElem?_eq_getElem (by omega)⟩
        obtain ⟨T, t4, t5, rfl, hT⟩ := hY.2 acc'.length v1 (d, k) (by simpa using hv1) (by rw [hcat]; simp)
        rw [List.concat_eq_append] at hcat
        subst hcat
        have hp : rlePush (acc' ++ [(d, k)]) c = if d = c then acc' ++ [(d, k + 1)] else acc' ++ [(d, k)] ++ [(c, 1)] := by
          simp [rlePush]
        k_steps
        · refine ⟨?_⟩
          dsimp only [UnrPostW]
          rename ((_ == _) = true) => hdc
          rw [st_beq] at hdc
          have hdc : d = c := by simpa using hdc
          rw [if_pos hdc] at hp
          rename News _ _ _ ((_, _) :: (_, _) :: (I, _) :: _) => NN
          refine' unr_end_syms (by k_asm) NN (by omega) (by omega) hoI ⟨trivial, ⟨((_, _), _ :: _, acc' ++ [(d, k + 1)]), ?hm, ?hr, rfl, rest, cs, rfl, hS, ?a1, ?a2, ?a3, ?a4, ?a5⟩⟩
          case hm => intro p hp; cases hp
          case hr =>
            intro z _ hs
            have hs' := hs
            simp only [List.contains_cons, List.contains_nil, Bool.or_false, beq_eq_false_iff_ne, ne_eq] at hs'
            simp +zetaDelta only [hs', hs, if_false, Bool.false_eq_true]
          case a1 => simp only [List.length_cons, List.length_append, List.length_nil] at hlen ⊢; omega
          case a2 =>
            show SymsIn _ (its.setIfInBounds _ _).toList (acc' ++ [(d, k + 1)])
            rw [Array.toList_setIfInBounds]
            exact SymsIn.last (fun p hp => .tail _ hp) hY ⟨_, _, _, rfl, by subst hdc; exact .head _⟩
          case a3 => exact List.forall_mem_cons.mpr ⟨neN (by omega), hoff⟩
          case a4 => exact List.forall_mem_cons.mpr ⟨neN (by omega), hoI⟩
          case a5 => rw [← hacc, List.foldl_cons, hp]
        · refine ⟨?_⟩
          dsimp only [UnrPostW]
          rename ((_ == _) = false) => hdc
          rw [st_beq] at hdc
          have hdc : ¬ d = c := by simpa using hdc
          rw [if_neg hdc] at hp
          rename News _ _ _ ((_, _) :: (_, _) :: (I, _) :: _) => NN
          refine' unr_end_syms (by k_asm) NN (by omega) (by omega) hoI ⟨trivial, ⟨((_, _), _ :: _, acc' ++ [(d, k)] ++ [(c, 1)]), ?hm, ?hr, rfl, rest, cs, rfl, hS, ?a1, ?a2, ?a3, ?a4, ?a5⟩⟩
          case hm => intro p hp; cases hp
          case hr =>
            intro z _ hs
            have hs' := hs
            simp only [List.contains_cons, List.contains_nil, Bool.or_false, beq_eq_false_iff_ne, ne_eq] at hs'
            simp +zetaDelta only [hs', hs, if_false, Bool.false_eq_true]
          case a1 => simp only [List.length_cons, List.length_append, List.length_nil] at hlen ⊢; omega
          case a2 =>
            show SymsIn _ (its.push _).toList (acc' ++ [(d, k)] ++ [(c, 1)])
            rw [Array.toList_push]
            exact SymsIn.push (fun p hp => .tail _ hp) hY ⟨_, _, _, rfl, .head _⟩
          case a3 => exact List.forall_mem_cons.mpr ⟨neN (by omega), hoff⟩
          case a4 => exact List.forall_mem_cons.mpr ⟨neN (by omega), hoI⟩
          case a5 => rw [← hacc, List.foldl_cons, hp]
end
end C_s3_part
section C_s4_part
local macro_rules | `(tactic| walk_at "no key 0") => `(tactic| fail)
set_option maxRecDepth 100000
set_option maxHeartbeats 300000
set_option rowWalk.seconds 0
theorem init_C_s4 : (PySem.Challenge.rw_pb0263_01.Holds → True) ∧ (Mine.hd.heap_1 = Mine.hd.heap_1) := by
  k_fill; exact ⟨fun _ => trivial, rfl⟩
/-- a picture's symbols as they stand in a heap -/
noncomputable def SymsAt (h : Heap) (l : Addr) (ps : List (Nat × Nat)) : Prop :=
  ∃ vs : List Value, h.IsList l vs.toArray ∧ vs.length = ps.length ∧ ∀ (i : Nat) (v : Value) (p : Nat × Nat), vs[i]? = some v → ps[i]? = some p → ∃ T t1 t2, v = .ref T ∧ IsTup h T #[.str (St [p.1]) t1, .int (p.2 : Int) t2]
section
local macro_rules | `(tactic| walk_at "eval ListComp") => `(tactic| (k_here; k_dflt (refine comp_eval (by k_asm) (by with_unfolding_all rfl) (by decide) (by rfl) (by decide) ?_)))
local macro_rules | `(tactic| walk_at "pyIter ref") => `(tactic| refine Held.out ?_)
theorem ints_snoc {vs : List Value} {ns : List Int} (h : IntsAre vs ns) (a : Int) (t : Tok) : IntsAre (vs ++ [.int a t]) (ns ++ [a]) := by
  induction h with
  | nil => exact .cons a t .nil
  | cons b u _ ih => exact .cons b u ih
theorem c_size (w : World) (h : Heap) (ps : List (Nat × Nat)) (l : Addr) (hp : ps.length ≤ 30) (hal : ∀ p ∈ ps, p.1 ∈ AL ∧ p.2 ≤ 30) (hS : SymsAt h l ps) :
    Pure w 6 176 [.ref l] h (fun v new => new = [] ∧ ∃ t, v = .int ((ps.map fun p => (p.2 : Int)).sum) t) := by
  obtain ⟨vs, hl, hlen, hv⟩ := hS
  refine Pure.enter (by k_is) (by k_is) (by exact rfl) (by exact locs rfl) (by decide) ?_ (by exact rfl) (by exact rfl) (by exact rfl) (by decide)
  intro mean mg mb dp un gd outer A₀ base hp₁ gs₁ dr₁ tk₁ os₁ L' Q mF AF EF F' N' B' X' T' hdp hun hret
  ktr_unf
  k_steps
  refine ⟨?_⟩
  rename Fr _ _ _ _ => FF
  have hls := hl.at fun o e => FF.keep l o e
  have hlt : l < h.objs.size := let ⟨_, e, _⟩ := hl; Heap.lt_size e
  refine comp_pairs (fun i v1 v2 => ∃ p t1 t2, ps[i]? = some p ∧ v1 = .str (St [p.1]) t1 ∧ v2 = .int (p.2 : Int) t2) (fun i ys => IntsAre ys ((ps.take i).map fun p => (p.2 : Int))) rfl rfl rfl rfl (by decide) FF (by k_asm) hls (Nat.ne_of_lt (Nat.lt_of_lt_of_le hlt FF.above)) ?_ (by omega) ?_ ?_ ?_
  · intro i v hi
    have hi' : i < ps.length := by rw [← hlen]; exact (List.getElem?_eq_some_iff.mp hi).1
    obtain ⟨T, t1, t2, e, hT⟩ := hv i v ps[i] hi (List.getElem?_eq_getElem hi')
    have hTlt : T < h.objs.size := let ⟨_, e, _⟩ := hT; Heap.lt_size e
    exact ⟨T, _, _, e, isTup_stays (fun b o e => FF.keep b o e) hT, Nat.ne_of_lt (Nat.lt_of_lt_of_le hTlt FF.above), _, t1, t2, List.getElem?_eq_getElem hi', rfl, rfl⟩
  · simp only [List.take_zero, List.map_nil]; exact .nil
  · rintro s₂ i ⟨hh, rfl⟩ hi ys own C oC D m₂ h2 tk E' hyl hY hoC ⟨v1, v2, ⟨p, t1, t2, hpi, rfl, rfl⟩, ha, hb⟩ F2 N2 offD hDC
    simp only [List.nil_append] at N2
    have hpm := hal p (List.mem_of_getElem? hpi)
    refine wpAny_tests_one ?_
    k_steps
    · exfalso
      rename (List.any _ _ = true) => hany
      have e1 : (⟨#[80]⟩ : Str) = St [80] := rfl
      have e2 : (⟨#[83]⟩ : Str) = St [83] := rfl
      have e3 : (⟨#[86]⟩ : Str) = St [86] := rfl
      rw [e1, e2, e3] at hany
      simp only [List.any_cons, List.any_nil, st_beq, Bool.or_eq_true, beq_iff_eq, List.cons.injEq, Bool.or_false, and_true] at hany
      have := hpm.1
      simp only [AL, List.mem_cons, List.not_mem_nil, or_false] at this
      omega
    · refine CEnd.intro (by k_asm) (by k_asm) (fun p hp => by first | exact hp | exact .tail _ hp | exact .tail _ (.tail _ hp)) ?_
      have e : ps.take (i + 1) = ps.take i ++ [p] := by rw [List.take_add_one, hpi]; rfl
      rw [e, List.map_append]
      have e3 : ∀ t, IntsAre (ys ++ [.int ((p.2 : Int) * ((1 : Nat) : Int)) t]) ((ps.take i).map (fun p => (p.2 : Int)) ++ [(p.2 : Int)]) := fun t => by
        rw [show ((p.2 : Int) * ((1 : Nat) : Int)) = p.2 by simp]; exact ints_snoc hY _ t
      exact e3 _
  · intro D h' tk ys F' N' oD hY
    k_steps
    rw [hlen, List.take_length]
    exact hret _ [] _ _ _ (by k_asm) (fun _ hp => nomatch hp) ⟨rfl, _, rfl⟩
end
end C_s4_part
section C_s5a_part
set_option maxRecDepth 100000
set_option maxHeartbeats 300000
set_option rowWalk.seconds 0
theorem init_S5A : (PySem.Challenge.rw_pb0263_01.Holds → True) ∧ (Mine.hd.heap_1 = Mine.hd.heap_1) := by
  k_fill; exact ⟨fun _ => trivial, rfl⟩
/-- the walk's Order, as far as the law's pictures move it -/
structure OS where
  seen : Nat := 0
  point : List Nat := []
  nines : Nat := 0
  zero : List Nat := []
  zeros : Nat := 0
  floats : Nat := 0
  behind : Nat := 0
  sign : List Nat := []
  money : List Nat := []
  last : List Nat := []
  ins : Bool := false
noncomputable def OS.take (s : OS) (c : Nat) : Option OS :=
  let r := { s with seen := s.seen + 1, last := [c] }
  if c = 57 then some { r with nines := s.nines + 1, behind := s.behind + (match s.point with | [] => 0 | _ => 1) }
  else if c = 90 ∨ c = 42 then (if s.nines = 0 ∧ s.floats = 0 ∧ (s.zero = [] ∨ s.zero = [c]) ∧ s.point = [] then some { r with zero := [c], zeros := s.zeros + 1 } else none)
  else if c = 46 then (if s.point = [] then some { r with point := [46] } else none)
  else if c = 44 then some { r with ins := true }
  else if c = 43 ∨ c = 45 then (if s.point = [] then (if s.seen = 0 then some { r with sign := [c] } else if s.sign = [c] ∧ s.money = [] ∧ s.nines = 0 ∧ s.zeros = 0 then some { r with floats := s.floats + 1 } else none) else none)
  else if c = 36 then (if s.point = [] then (if s.money = [] then (if s.seen = 0 then some { r with money := [36] } else none) else if s.nines = 0 ∧ s.zeros = 0 then some { r with floats := s.floats + 1 } else none) else none)
  else none
noncomputable def OS.ok (s : OS) : Prop := (s.point = [] ∨ s.point = [46]) ∧ (s.money = [] ∨ s.money = [36])
/-- the steps that the law's pictures take, each with its texts plain -/
inductive OStep : OS → Nat → OS → Prop
  | nine (a b d e f g i k l m) : OStep ⟨a, [], b, d, e, f, g, i, k, l, m⟩ 57 ⟨a + 1, [], b + 1, d, e, f, g, i, k, [57], m⟩
  | nineP (a b d e f g i k l m) : OStep ⟨a, [46], b, d, e, f, g, i, k, l, m⟩ 57 ⟨a + 1, [46], b + 1, d, e, f, g + 1, i, k, [57], m⟩
  | z0 (a e g i k l m) : OStep ⟨a, [], 0, [], e, 0, g, i, k, l, m⟩ 90 ⟨a + 1, [], 0, [90], e + 1, 0, g, i, k, [90], m⟩
  | z1 (a e g i k l m) : OStep ⟨a, [], 0, [90], e, 0, g, i, k, l, m⟩ 90 ⟨a + 1, [], 0, [90], e + 1, 0, g, i, k, [90], m⟩
  | s0 (a e g i k l m) : OStep ⟨a, [], 0, [], e, 0, g, i, k, l, m⟩ 42 ⟨a + 1, [], 0, [42], e + 1, 0, g, i, k, [42], m⟩
  | s1 (a e g i k l m) : OStep ⟨a, [], 0, [42], e, 0, g, i, k, l, m⟩ 42 ⟨a + 1, [], 0, [42], e + 1, 0, g, i, k, [42], m⟩
  | pt (a b d e f g i k l m) : OStep ⟨a, [], b, d, e, f, g, i, k, l, m⟩ 46 ⟨a + 1, [46], b, d, e, f, g, i, k, [46], m⟩
  | comma (a p b d e f g i k l m) : OStep ⟨a, p, b, d, e, f, g, i, k, l, m⟩ 44 ⟨a + 1, p, b, d, e, f, g, i, k, [44], true⟩
  | p0 (b d e f g i k l m) : OStep ⟨0, [], b, d, e, f, g, i, k, l, m⟩ 43 ⟨1, [], b, d, e, f, g, [43], k, [43], m⟩
  | p1 (a d f g l m) (ha : a ≠ 0) : OStep ⟨a, [], 0, d, 0, f, g, [43], [], l, m⟩ 43 ⟨a + 1, [], 0, d, 0, f + 1, g, [43], [], [43], m⟩
  | m0 (b d e f g i k l m) : OStep ⟨0, [], b, d, e, f, g, i, k, l, m⟩ 45 ⟨1, [], b, d, e, f, g, [45], k, [45], m⟩
  | m1 (a d f g l m) (ha : a ≠ 0) : OStep ⟨a, [], 0, d, 0, f, g, [45], [], l, m⟩ 45 ⟨a + 1, [], 0, d, 0, f + 1, g, [45], [], [45], m⟩
  | d0 (b d e f g i l m) : OStep ⟨0, [], b, d, e, f, g, i, [], l, m⟩ 36 ⟨1, [], b, d, e, f, g, i, [36], [36], m⟩
  | d1 (a d f g i l m) : OStep ⟨a, [], 0, d, 0, f, g, i, [36], l, m⟩ 36 ⟨a + 1, [], 0, d, 0, f + 1, g, i, [36], [36], m⟩
theorem OS.step {s t : OS} {c : Nat} (h : s.ok) (hcA : c ∈ AL) (hs : s.take c = some t) : OStep s c t := by
  obtain ⟨seen, point, nines, zero, zeros, floats, behind, sign, money, last, ins⟩ := s
  obtain ⟨h1, h2⟩ := h
  dsimp only at h1 h2
  simp only [AL, List.mem_cons, List.not_mem_nil, or_false] at hcA
  rcases hcA with rfl | rfl | rfl | rfl | rfl | rfl | rfl | rfl
  all_goals simp [OS.take] at hs
  · obtain ⟨⟨rfl, rfl, rfl | rfl, rfl⟩, rfl⟩ := hs <;> constructor
  · obtain ⟨⟨rfl, rfl, rfl | rfl, rfl⟩, rfl⟩ := hs <;> constructor
  · obtain ⟨rfl, hs⟩ := hs
    rcases h2 with rfl | rfl
    · simp at hs; obtain ⟨rfl, rfl⟩ := hs; constructor
    · simp at hs; obtain ⟨⟨rfl, rfl⟩, rfl⟩ := hs; constructor
  · obtain ⟨rfl, hs⟩ := hs
    by_cases h0 : seen = 0
    · rw [if_pos h0] at hs; subst h0; injection hs with hs; subst hs; constructor
    · rw [if_neg h0] at hs; simp at hs; obtain ⟨⟨rfl, rfl, rfl, rfl⟩, rfl⟩ := hs; exact .p1 _ _ _ _ _ _ h0
  · obtain ⟨rfl, hs⟩ := hs
    by_cases h0 : seen = 0
    · rw [if_pos h0] at hs; subst h0; injection hs with hs; subst hs; constructor
    · rw [if_neg h0] at hs; simp at hs; obtain ⟨⟨rfl, rfl, rfl, rfl⟩, rfl⟩ := hs; exact .m1 _ _ _ _ _ _ h0
  · rcases h1 with rfl | rfl <;> subst hs <;> constructor
  · subst hs; constructor
  · obtain ⟨rfl, rfl⟩ := hs; constructor
theorem OStep.ok {s t : OS} {c : Nat} (e : OStep s c t) (h : s.ok) : t.ok := by
  cases e <;> first | exact ⟨.inl rfl, h.2⟩ | exact ⟨.inr rfl, h.2⟩ | exact h | exact ⟨.inl rfl, .inr rfl⟩
noncomputable def hk (w : World) (x : String) : Int := PyData.keyHash w.params (Str.ofString x)
/-- an Order's dict; the tokens are a function's values -/
noncomputable def ordEs (w : World) (T : Nat → Tok) (seen : Int) (point : List Nat) (nines : Int) (zero : List Nat) (zeros floats behind : Int) (sign money last : List Nat) (ins : Bool) : List DictEntry := [
    ⟨PyData.keyHash w.params (Str.ofString "seen"), .str (Str.ofString "seen") (T 0), .int seen (T 16)⟩,
    ⟨PyData.keyHash w.params (Str.ofString "is_plain"), .str (Str.ofString "is_plain") (T 1), .bool false⟩,
    ⟨PyData.keyHash w.params (Str.ofString "point"), .str (Str.ofString "point") (T 2), .str (St point) (T 17)⟩,
    ⟨PyData.keyHash w.params (Str.ofString "lead"), .str (Str.ofString "lead") (T 3), .int 0 (T 18)⟩,
    ⟨PyData.keyHash w.params (Str.ofString "trail"), .str (Str.ofString "trail") (T 4), .int 0 (T 19)⟩,
    ⟨PyData.keyHash w.params (Str.ofString "nines"), .str (Str.ofString "nines") (T 5), .int nines (T 20)⟩,
    ⟨PyData.keyHash w.params (Str.ofString "zero"), .str (Str.ofString "zero") (T 6), .str (St zero) (T 21)⟩,
    ⟨PyData.keyHash w.params (Str.ofString "zeros"), .str (Str.ofString "zeros") (T 7), .int zeros (T 22)⟩,
    ⟨PyData.keyHash w.params (Str.ofString "floats"), .str (Str.ofString "floats") (T 8), .int floats (T 23)⟩,
    ⟨PyData.keyHash w.params (Str.ofString "behind"), .str (Str.ofString "behind") (T 9), .int behind (T 24)⟩,
    ⟨PyData.keyHash w.params (Str.ofString "is_late"), .str (Str.ofString "is_late") (T 10), .bool false⟩,
    ⟨PyData.keyHash w.params (Str.ofString "sign"), .str (Str.ofString "sign") (T 11), .str (St sign) (T 25)⟩,
    ⟨PyData.keyHash w.params (Str.ofString "money"), .str (Str.ofString "money") (T 12), .str (St money) (T 26)⟩,
    ⟨PyData.keyHash w.params (Str.ofString "last"), .str (Str.ofString "last") (T 13), .str (St last) (T 27)⟩,
    ⟨PyData.keyHash w.params (Str.ofString "is_over"), .str (Str.ofString "is_over") (T 14), .bool false⟩,
    ⟨PyData.keyHash w.params (Str.ofString "is_inserted"), .str (Str.ofString "is_inserted") (T 15), .bool ins⟩]
inductive OrdRel (w : World) (s : OS) (es : List DictEntry) : Prop
  | mk (T : Nat → Tok) (e : es = ordEs w T s.seen s.point s.nines s.zero s.zeros s.floats s.behind s.sign s.money s.last s.ins)
theorem ordRel_mk {w : World} {s : OS} {k0 k1 k2 k3 k4 k5 k6 k7 k8 k9 k10 k11 k12 k13 k14 k15 t0 t1 t2 t3 t4 t5 t6 t7 t8 t9 t10 t11 : Tok} : OrdRel w s [
    ⟨PyData.keyHash w.params (Str.ofString "seen"), .str (Str.ofString "seen") k0, .int (s.seen : Int) t0⟩,
    ⟨PyData.keyHash w.params (Str.ofString "is_plain"), .str (Str.ofString "is_plain") k1, .bool false⟩,
    ⟨PyData.keyHash w.params (Str.ofString "point"), .str (Str.ofString "point") k2, .str (St s.point) t1⟩,
    ⟨PyData.keyHash w.params (Str.ofString "lead"), .str (Str.ofString "lead") k3, .int 0 t2⟩,
    ⟨PyData.keyHash w.params (Str.ofString "trail"), .str (Str.ofString "trail") k4, .int 0 t3⟩,
    ⟨PyData.keyHash w.params (Str.ofString "nines"), .str (Str.ofString "nines") k5, .int (s.nines : Int) t4⟩,
    ⟨PyData.keyHash w.params (Str.ofString "zero"), .str (Str.ofString "zero") k6, .str (St s.zero) t5⟩,
    ⟨PyData.keyHash w.params (Str.ofString "zeros"), .str (Str.ofString "zeros") k7, .int (s.zeros : Int) t6⟩,
    ⟨PyData.keyHash w.params (Str.ofString "floats"), .str (Str.ofString "floats") k8, .int (s.floats : Int) t7⟩,
    ⟨PyData.keyHash w.params (Str.ofString "behind"), .str (Str.ofString "behind") k9, .int (s.behind : Int) t8⟩,
    ⟨PyData.keyHash w.params (Str.ofString "is_late"), .str (Str.ofString "is_late") k10, .bool false⟩,
    ⟨PyData.keyHash w.params (Str.ofString "sign"), .str (Str.ofString "sign") k11, .str (St s.sign) t9⟩,
    ⟨PyData.keyHash w.params (Str.ofString "money"), .str (Str.ofString "money") k12, .str (St s.money) t10⟩,
    ⟨PyData.keyHash w.params (Str.ofString "last"), .str (Str.ofString "last") k13, .str (St s.last) t11⟩,
    ⟨PyData.keyHash w.params (Str.ofString "is_over"), .str (Str.ofString "is_over") k14, .bool false⟩,
    ⟨PyData.keyHash w.params (Str.ofString "is_inserted"), .str (Str.ofString "is_inserted") k15, .bool s.ins⟩] :=
  ⟨fun i => [k0, k1, k2, k3, k4, k5, k6, k7, k8, k9, k10, k11, k12, k13, k14, k15, t0, t1, t2, t3, t4, t5, t6, t7, t8, t9, t10, t11].getD i 0, rfl⟩
/-- what a store turns -/
inductive OPut (w : World) : Str → Value → List DictEntry → ((Nat → Tok) → List DictEntry) → Prop
  | seen (T : Nat → Tok) (seen : Int) (point : List Nat) (nines : Int) (zero : List Nat) (zeros floats behind : Int) (sign money last : List Nat) (ins : Bool) (i : Int) (t : Tok) : OPut w (Str.ofString "seen") (.int i t) (ordEs w T seen point nines zero zeros floats behind sign money last ins) (fun T => ordEs w T i point nines zero zeros floats behind sign money last ins)
  | point (T : Nat → Tok) (seen : Int) (point : List Nat) (nines : Int) (zero : List Nat) (zeros floats behind : Int) (sign money last : List Nat) (ins : Bool) (l : List Nat) (t : Tok) : OPut w (Str.ofString "point") (.str (St l) t) (ordEs w T seen point nines zero zeros floats behind sign money last ins) (fun T => ordEs w T seen l nines zero zeros floats behind sign money last ins)
  | nines (T : Nat → Tok) (seen : Int) (point : List Nat) (nines : Int) (zero : List Nat) (zeros floats behind : Int) (sign money last : List Nat) (ins : Bool) (i : Int) (t : Tok) : OPut w (Str.ofString "nines") (.int i t) (ordEs w T seen point nines zero zeros floats behind sign money last ins) (fun T => ordEs w T seen point i zero zeros floats behind sign money last ins)
  | zero (T : Nat → Tok) (seen : Int) (point : List Nat) (nines : Int) (zero : List Nat) (zeros floats behind : Int) (sign money last : List Nat) (ins : Bool) (l : List Nat) (t : Tok) : OPut w (Str.ofString "zero") (.str (St l) t) (ordEs w T seen point nines zero zeros floats behind sign money last ins) (fun T => ordEs w T seen point nines l zeros floats behind sign money last ins)
  | zeros (T : Nat → Tok) (seen : Int) (point : List Nat) (nines : Int) (zero : List Nat) (zeros floats behind : Int) (sign money last : List Nat) (ins : Bool) (i : Int) (t : Tok) : OPut w (Str.ofString "zeros") (.int i t) (ordEs w T seen point nines zero zeros floats behind sign money last ins) (fun T => ordEs w T seen point nines zero i floats behind sign money last ins)
  | floats (T : Nat → Tok) (seen : Int) (point : List Nat) (nines : Int) (zero : List Nat) (zeros floats behind : Int) (sign money last : List Nat) (ins : Bool) (i : Int) (t : Tok) : OPut w (Str.ofString "floats") (.int i t) (ordEs w T seen point nines zero zeros floats behind sign money last ins) (fun T => ordEs w T seen point nines zero zeros i behind sign money last ins)
  | behind (T : Nat → Tok) (seen : Int) (point : List Nat) (nines : Int) (zero : List Nat) (zeros floats behind : Int) (sign money last : List Nat) (ins : Bool) (i : Int) (t : Tok) : OPut w (Str.ofString "behind") (.int i t) (ordEs w T seen point nines zero zeros floats behind sign money last ins) (fun T => ordEs w T seen point nines zero zeros floats i sign money last ins)
  | sign (T : Nat → Tok) (seen : Int) (point : List Nat) (nines : Int) (zero : List Nat) (zeros floats behind : Int) (sign money last : List Nat) (ins : Bool) (l : List Nat) (t : Tok) : OPut w (Str.ofString "sign") (.str (St l) t) (ordEs w T seen point nines zero zeros floats behind sign money last ins) (fun T => ordEs w T seen point nines zero zeros floats behind l money last ins)
  | money (T : Nat → Tok) (seen : Int) (point : List Nat) (nines : Int) (zero : List Nat) (zeros floats behind : Int) (sign money last : List Nat) (ins : Bool) (l : List Nat) (t : Tok) : OPut w (Str.ofString "money") (.str (St l) t) (ordEs w T seen point nines zero zeros floats behind sign money last ins) (fun T => ordEs w T seen point nines zero zeros floats behind sign l last ins)
  | last (T : Nat → Tok) (seen : Int) (point : List Nat) (nines : Int) (zero : List Nat) (zeros floats behind : Int) (sign money last : List Nat) (ins : Bool) (l : List Nat) (t : Tok) : OPut w (Str.ofString "last") (.str (St l) t) (ordEs w T seen point nines zero zeros floats behind sign money last ins) (fun T => ordEs w T seen point nines zero zeros floats behind sign money l ins)
  | ins (T : Nat → Tok) (seen : Int) (point : List Nat) (nines : Int) (zero : List Nat) (zeros floats behind : Int) (sign money last : List Nat) (ins : Bool) (b : Bool) : OPut w (Str.ofString "is_inserted") (.bool b) (ordEs w T seen point nines zero zeros floats behind sign money last ins) (fun T => ordEs w T seen point nines zero zeros floats behind sign money last b)
  | late (T : Nat → Tok) (seen : Int) (point : List Nat) (nines : Int) (zero : List Nat) (zeros floats behind : Int) (sign money last : List Nat) (ins : Bool) : OPut w (Str.ofString "is_late") (.bool false) (ordEs w T seen point nines zero zeros floats behind sign money last ins) (fun T => ordEs w T seen point nines zero zeros floats behind sign money last ins)
theorem OPut.put {w : World} {name : Str} {v : Value} {es : List DictEntry} {es' : (Nat → Tok) → List DictEntry} (P : OPut w name v es es') (H : Int) (K : Value) : (getL name es).isSome = true ∧ ∃ T, (putL name H K v es, putN name es 16) = (es' T, 16) := by
  cases P
  case seen T _ _ _ _ _ _ _ _ _ _ _ _ t => exact ⟨rfl, fun j => if j = 16 then t else T j, rfl⟩
  case point T _ _ _ _ _ _ _ _ _ _ _ _ t => exact ⟨rfl, fun j => if j = 17 then t else T j, rfl⟩
  case nines T _ _ _ _ _ _ _ _ _ _ _ _ t => exact ⟨rfl, fun j => if j = 20 then t else T j, rfl⟩
  case zero T _ _ _ _ _ _ _ _ _ _ _ _ t => exact ⟨rfl, fun j => if j = 21 then t else T j, rfl⟩
  case zeros T _ _ _ _ _ _ _ _ _ _ _ _ t => exact ⟨rfl, fun j => if j = 22 then t else T j, rfl⟩
  case floats T _ _ _ _ _ _ _ _ _ _ _ _ t => exact ⟨rfl, fun j => if j = 23 then t else T j, rfl⟩
  case behind T _ _ _ _ _ _ _ _ _ _ _ _ t => exact ⟨rfl, fun j => if j = 24 then t else T j, rfl⟩
  case sign T _ _ _ _ _ _ _ _ _ _ _ _ t => exact ⟨rfl, fun j => if j = 25 then t else T j, rfl⟩
  case money T _ _ _ _ _ _ _ _ _ _ _ _ t => exact ⟨rfl, fun j => if j = 26 then t else T j, rfl⟩
  case last T _ _ _ _ _ _ _ _ _ _ _ _ t => exact ⟨rfl, fun j => if j = 27 then t else T j, rfl⟩
  case ins T _ _ _ _ _ _ _ _ _ _ _ _ => exact ⟨rfl, T, rfl⟩
  case late T _ _ _ _ _ _ _ _ _ _ _ => exact ⟨rfl, T, rfl⟩
theorem OPut.len {w : World} {name : Str} {v : Value} {es : List DictEntry} {es' : (Nat → Tok) → List DictEntry} (P : OPut w name v es es') (T : Nat → Tok) : (es' T).length ≤ 1000 := by
  cases P <;> exact Nat.le_of_ble_eq_true rfl
section
theorem c_digits (w : World) (h : Heap) (x d : Addr) (es : List DictEntry) (st : OS) (hx : h.get? x = some (instObj 298 d)) (hd : h.get? d = some (dictOf es 16)) (hE : OrdRel w st es) (_ : st.ok) :
    Pure w 4 197 [.ref x] h (fun v new => new = [] ∧ ∃ t, v = .int ((st.nines : Int) + st.zeros + st.floats) t) := by
  obtain ⟨T, rfl⟩ := hE
  refine Pure.enter (by k_is) (by k_is) (by exact rfl) (by exact locs rfl) (by decide) ?_ (by exact rfl) (by exact rfl) (by exact rfl) (by decide)
  intro mean mg mb dp un gd outer A₀ base hp₁ gs₁ dr₁ tk₁ os₁ L' Q mF AF EF F' N' B' X' T' hdp hun hret
  ktr_unf
  k_steps
  exact hret _ [] _ _ _ (by k_asm) (fun _ hp => nomatch hp) ⟨rfl, _, rfl⟩
theorem c_scale (w : World) (h : Heap) (x d : Addr) (es : List DictEntry) (st : OS) (hx : h.get? x = some (instObj 298 d)) (hd : h.get? d = some (dictOf es 16)) (hE : OrdRel w st es) (_ : st.ok) :
    Pure w 4 295 [.ref x] h (fun v new => new = [] ∧ ∃ t, v = .int (st.behind : Int) t) := by
  obtain ⟨T, rfl⟩ := hE
  refine Pure.enter (by k_is) (by k_is) (by exact rfl) (by exact locs rfl) (by decide) ?_ (by exact rfl) (by exact rfl) (by exact rfl) (by decide)
  intro mean mg mb dp un gd outer A₀ base hp₁ gs₁ dr₁ tk₁ os₁ L' Q mF AF EF F' N' B' X' T' hdp hun hret
  ktr_unf
  k_steps
  rw [show ((st.behind : Int) - 0) = st.behind by omega]
  exact hret _ [] _ _ _ (by k_asm) (fun _ hp => nomatch hp) ⟨rfl, _, rfl⟩
theorem c_whole (w : World) (h : Heap) (x d : Addr) (es : List DictEntry) (st : OS) (hx : h.get? x = some (instObj 298 d)) (hd : h.get? d = some (dictOf es 16)) (hE : OrdRel w st es)
    (hd1 : 0 < st.nines + st.zeros + st.floats) (hd2 : st.nines + st.zeros + st.floats ≤ 18) (cl : Nat) (hla : st.last = [cl]) (hlc : cl ≠ 44 ∧ cl ≠ 46) :
    Pure w 6 288 [.ref x] h (fun v new => new = [] ∧ v = .bool true) := by
  obtain ⟨T, rfl⟩ := hE
  rw [hla] at hd
  refine Pure.enter (by k_is) (by k_is) (by exact rfl) (by exact locs rfl) (by decide) ?_ (by exact rfl) (by exact rfl) (by exact rfl) (by decide)
  intro mean mg mb dp un gd outer A₀ base hp₁ gs₁ dr₁ tk₁ os₁ L' Q mF AF EF F' N' B' X' T' hdp hun hret
  ktr_unf
  k_steps
  all_goals first
    | (exfalso; omega)
    | (exfalso
       rename (List.any _ _ = true) => hany
       rw [lit_comma, lit_point] at hany
       simp only [List.any_cons, List.any_nil, st_beq, Bool.or_eq_true, beq_iff_eq, List.cons.injEq, Bool.or_false, and_true] at hany
       omega)
    | (have e : decide ((st.nines : Int) + st.zeros + st.floats + 0 + 0 ≤ 18) = true := decide_eq_true (by omega)
       exact hret _ [] _ _ _ (by k_asm) (fun _ hp => nomatch hp) ⟨rfl, by rw [e]⟩)
end
end C_s5a_part
section C_s5b_part
local macro_rules | `(tactic| walk_at "no key 0") => `(tactic| fail)
set_option maxRecDepth 100000
set_option maxHeartbeats 300000
set_option rowWalk.seconds 0
theorem init_C_s5b : (PySem.Challenge.rw_pb0263_01.Holds → True) ∧ (Mine.hd.heap_1 = Mine.hd.heap_1) := by
  k_fill; exact ⟨fun _ => trivial, rfl⟩
noncomputable def OrdLed (w : World) (x d : Addr) (s : OS) (led : List (Addr × Obj)) : Prop := ∃ es, OrdRel w s es ∧ led = [(x, instObj 298 d), (d, dictOf es 16)]
theorem ordTake_drop {h₀ : Heap} {L : Addr} {p : Addr × Obj} {r : List (Addr × Obj)} {h' : Heap} (N : News h₀ L h' (p :: r)) : News h₀ L h' r := fun q hq => N q (.tail _ hq)
theorem ordTake_news {h₀ : Heap} {L x d : Addr} {es : List DictEntry} {h' : Heap} (N : News h₀ L h' [(x, instObj 298 d), (d, dictOf es 16)]) : News h₀ L h' [(x, instObj 298 d), (d, dictOf es 16)] := N
/-- what a sign's object is, in the ground -/
noncomputable def SignG (w : World) (o dx : Addr) (c : Nat) (a : Int) (k1 k2 k3 t1 t2 t3 : Tok) (g : Heap) : Prop := g.get? o = some (instObj 141 dx) ∧ g.get? dx = some (signD w c a k1 k2 k3 t1 t2 t3)
theorem ord_set {prog : Program} {w : World} {A : Around} {E : Value → Shared → Prop} {s : Shared} {h₀ : Heap} {L x C dx : Addr} {ox : Obj} {m : Str → Option Value} {K : Frag} {name : Str} {v : Value} {es : List DictEntry} {es' : (Nat → Tok) → List DictEntry} {news : List (Addr × Obj)} {news' : (Nat → Tok) → List (Addr × Obj)} {Q : Unit → Shared → Prop}
    (P : OPut w name v es es') (F : Fr h₀ L s.heap m) (X₀ : K.In h₀) (N : News h₀ L s.heap news) (I : InstAt s.heap x ox C (some (dictOf es 16))) (hd : ox.dict = some dx)
    (hs : findIn K (.ref C) "__setattr__" = some (some (.builtin "object.__setattr__"))) (hp : plainOver K C = true) (ht : takerIn K C name = some none) (hh : hasDictIn K C = true)
    (U : ∀ T, Upd dx (dictOf es 16) (dictOf (es' T) 16) news (news' T)) (h : ∀ T h', Fr h₀ L h' m → News h₀ L h' (news' T) → Q () { s with heap := h', toks := s.toks + 2 }) :
    wpAny (model prog w) A (setAttr (.ref x) name v) Q E s := by
  obtain ⟨hl, T, e⟩ := P.put (PyData.keyHash w.params name) (.str name (s.toks + 1))
  exact set_dict F X₀ N I hd hs hp ht hh hl e (U T) (P.len T) (h T)
section
local macro_rules | `(tactic| walk_at "setAttr ref") => `(tactic| (k_here; k_dflt (refine' ord_set ?P ?k1 ?k2 ?k3 ?k4 ?k5 ?k6 ?k7 ?k8 ?k9 ?k12 ?_; (case k1 => k_asm); (case k2 => k_asm); (case k3 => k_asm); (case k4 => k_inst); (case P => with_reducible constructor); (case k5 => exact rfl); (case k6 => k_is); (case k7 => k_is); (case k8 => k_is); (case k9 => k_is); (case k12 => (intro T'; k_upd)); k_whole; intro T' h' F' N'; (try dsimp only at N'); (try k_sweep))))
local macro_rules | `(tactic| walk_at "call ref") => `(tactic| (k_here; (fail_if_success with_reducible show wpAny _ _ (call (Value.ref 253) _) _ _ _); refine Held.out ?_))
theorem m_addb0 (w : World) (x d : Addr) (a1 a4 : Nat) (a5 : List Nat) (a6 a7 a8 : Nat) (a9 a10 a11 : List Nat) (a12 : Bool) (k : Int) (t : Tok) (b : Bool) (led : List (Addr × Obj)) (hne : @Ne Nat x d) (hL : OrdLed w x d ⟨a1, [], a4, a5, a6, a7, a8, a9, a10, a11, a12⟩ led) :
    Mut w 3 204 [.ref x, .int k t, .bool b] led (fun _ => True) (fun r new => r = .none ∧ OrdLed w x d ⟨a1, [], a4, a5, a6, a7, a8, a9, a10, a11, a12⟩ new) := by
  obtain ⟨es, ⟨T9, rfl⟩, rfl⟩ := hL
  (try dsimp only)
  refine Mut.enter (by k_is) (by k_is) (by exact rfl) (by exact locs rfl) (by decide) ?_ (by exact rfl) (by exact rfl) (by exact rfl) (by decide)
  intro mean mg mb dp un gd outer A₀ base g hp₁ gs₁ dr₁ tk₁ os₁ L' Q mF AF EF F' N' P' B' X' T' hdp hun hret
  ktr_unf
  k_steps
  rename News _ _ _ _ => NN
  first | replace NN := ordTake_news NN | replace NN := ordTake_news (ordTake_drop NN) | replace NN := ordTake_news (ordTake_drop (ordTake_drop NN)) | replace NN := ordTake_news (ordTake_drop (ordTake_drop (ordTake_drop NN))) | replace NN := ordTake_news (ordTake_drop (ordTake_drop (ordTake_drop (ordTake_drop NN)))) | replace NN := ordTake_news (ordTake_drop (ordTake_drop (ordTake_drop (ordTake_drop (ordTake_drop NN))))) | replace NN := ordTake_news (ordTake_drop (ordTake_drop (ordTake_drop (ordTake_drop (ordTake_drop (ordTake_drop NN))))))
  exact hret _ _ _ _ _ (by k_asm) NN ⟨rfl, _, ⟨_, rfl⟩, rfl⟩
theorem m_addb1 (w : World) (x d : Addr) (a1 a4 : Nat) (a5 : List Nat) (a6 a7 a8 : Nat) (a9 a10 a11 : List Nat) (a12 : Bool) (t : Tok) (led : List (Addr × Obj)) (hne : @Ne Nat x d) (hL : OrdLed w x d ⟨a1, [46], a4, a5, a6, a7, a8, a9, a10, a11, a12⟩ led) :
    Mut w 3 204 [.ref x, .int 1 t, .bool false] led (fun _ => True) (fun r new => r = .none ∧ OrdLed w x d ⟨a1, [46], a4, a5, a6, a7, a8 + 1, a9, a10, a11, a12⟩ new) := by
  obtain ⟨es, ⟨T9, rfl⟩, rfl⟩ := hL
  (try dsimp only)
  refine Mut.enter (by k_is) (by k_is) (by exact rfl) (by exact locs rfl) (by decide) ?_ (by exact rfl) (by exact rfl) (by exact rfl) (by decide)
  intro mean mg mb dp un gd outer A₀ base g hp₁ gs₁ dr₁ tk₁ os₁ L' Q mF AF EF F' N' P' B' X' T' hdp hun hret
  ktr_unf
  k_steps
  rename News _ _ _ _ => NN
  first | replace NN := ordTake_news NN | replace NN := ordTake_news (ordTake_drop NN) | replace NN := ordTake_news (ordTake_drop (ordTake_drop NN)) | replace NN := ordTake_news (ordTake_drop (ordTake_drop (ordTake_drop NN))) | replace NN := ordTake_news (ordTake_drop (ordTake_drop (ordTake_drop (ordTake_drop NN)))) | replace NN := ordTake_news (ordTake_drop (ordTake_drop (ordTake_drop (ordTake_drop (ordTake_drop NN))))) | replace NN := ordTake_news (ordTake_drop (ordTake_drop (ordTake_drop (ordTake_drop (ordTake_drop (ordTake_drop NN))))))
  exact hret _ _ _ _ _ (by k_asm) NN ⟨rfl, _, ⟨_, rfl⟩, rfl⟩
theorem m_nine0 (w : World) (x d : Addr) (b1 b3 : Nat) (b4 : List Nat) (b5 b6 b7 : Nat) (b8 b9 b10 : List Nat) (b11 : Bool) (o dx : Addr) (a : Int) (k1 k2 k3 t1 t2 t3 : Tok) (led : List (Addr × Obj)) (hne : @Ne Nat x d) (hL : OrdLed w x d ⟨b1, [], b3, b4, b5, b6, b7, b8, b9, b10, b11⟩ led) :
    Mut w 4 211 [.ref x, .ref o] led (SignG w o dx 57 a k1 k2 k3 t1 t2 t3) (fun r new => r = .none ∧ OrdLed w x d ⟨b1, [], b3 + 1, b4, b5, b6, b7, b8, b9, b10, b11⟩ new) := by
  obtain ⟨es, ⟨T9, rfl⟩, rfl⟩ := hL
  (try dsimp only)
  refine Mut.enter (by k_is) (by k_is) (by exact rfl) (by exact locs rfl) (by decide) ?_ (by exact rfl) (by exact rfl) (by exact rfl) (by decide)
  intro mean mg mb dp un gd outer A₀ base g hp₁ gs₁ dr₁ tk₁ os₁ L' Q mF AF EF F' N' P' B' X' T' hdp hun hret
  obtain ⟨h1, h2⟩ := P'
  ktr_unf
  k_steps
  refine ⟨?_⟩
  rename News _ _ _ _ => NN
  first | replace NN := ordTake_news NN | replace NN := ordTake_news (ordTake_drop NN) | replace NN := ordTake_news (ordTake_drop (ordTake_drop NN)) | replace NN := ordTake_news (ordTake_drop (ordTake_drop (ordTake_drop NN))) | replace NN := ordTake_news (ordTake_drop (ordTake_drop (ordTake_drop (ordTake_drop NN)))) | replace NN := ordTake_news (ordTake_drop (ordTake_drop (ordTake_drop (ordTake_drop (ordTake_drop NN))))) | replace NN := ordTake_news (ordTake_drop (ordTake_drop (ordTake_drop (ordTake_drop (ordTake_drop (ordTake_drop NN))))))
  refine' Mut.use (tl := []) (m_addb0 w x d _ (b3 + 1) _ _ _ _ _ _ _ _ _ _ _ _ hne ⟨_, ⟨_, rfl⟩, rfl⟩) ?v1 ?v2 ?v3 NN ?v5 rfl (by omega) (by omega) (fun p hp => hp) (fun p hp => nomatch hp) (fun p hp q hq => nomatch hq) (fun _ _ _ => trivial) ?_
  case v1 => k_asm
  case v2 => k_asm
  case v3 => k_asm
  case v5 => k_asm
  clear NN
  intro v9 new9 h9 tk9 F9 N9 D9 P9
  obtain ⟨rfl, es9, hE9, rfl⟩ := P9
  simp only [List.append_nil] at N9
  clear D9
  (try dsimp only); (try k_fold)
  k_steps
  exact hret _ _ _ _ _ (by k_asm) N9 ⟨rfl, _, hE9, rfl⟩
theorem m_nine1 (w : World) (x d : Addr) (b1 b3 : Nat) (b4 : List Nat) (b5 b6 b7 : Nat) (b8 b9 b10 : List Nat) (b11 : Bool) (o dx : Addr) (a : Int) (k1 k2 k3 t1 t2 t3 : Tok) (led : List (Addr × Obj)) (hne : @Ne Nat x d) (hL : OrdLed w x d ⟨b1, [46], b3, b4, b5, b6, b7, b8, b9, b10, b11⟩ led) :
    Mut w 4 211 [.ref x, .ref o] led (SignG w o dx 57 a k1 k2 k3 t1 t2 t3) (fun r new => r = .none ∧ OrdLed w x d ⟨b1, [46], b3 + 1, b4, b5, b6, b7 + 1, b8, b9, b10, b11⟩ new) := by
  obtain ⟨es, ⟨T9, rfl⟩, rfl⟩ := hL
  (try dsimp only)
  refine Mut.enter (by k_is) (by k_is) (by exact rfl) (by exact locs rfl) (by decide) ?_ (by exact rfl) (by exact rfl) (by exact rfl) (by decide)
  intro mean mg mb dp un gd outer A₀ base g hp₁ gs₁ dr₁ tk₁ os₁ L' Q mF AF EF F' N' P' B' X' T' hdp hun hret
  obtain ⟨h1, h2⟩ := P'
  ktr_unf
  k_steps
  refine ⟨?_⟩
  rename News _ _ _ _ => NN
  first | replace NN := ordTake_news NN | replace NN := ordTake_news (ordTake_drop NN) | replace NN := ordTake_news (ordTake_drop (ordTake_drop NN)) | replace NN := ordTake_news (ordTake_drop (ordTake_drop (ordTake_drop NN))) | replace NN := ordTake_news (ordTake_drop (ordTake_drop (ordTake_drop (ordTake_drop NN)))) | replace NN := ordTake_news (ordTake_drop (ordTake_drop (ordTake_drop (ordTake_drop (ordTake_drop NN))))) | replace NN := ordTake_news (ordTake_drop (ordTake_drop (ordTake_drop (ordTake_drop (ordTake_drop (ordTake_drop NN))))))
  refine' Mut.use (tl := []) (m_addb1 w x d _ (b3 + 1) _ _ _ _ _ _ _ _ _ _ hne ⟨_, ⟨_, rfl⟩, rfl⟩) ?v1 ?v2 ?v3 NN ?v5 rfl (by omega) (by omega) (fun p hp => hp) (fun p hp => nomatch hp) (fun p hp q hq => nomatch hq) (fun _ _ _ => trivial) ?_
  case v1 => k_asm
  case v2 => k_asm
  case v3 => k_asm
  case v5 => k_asm
  clear NN
  intro v9 new9 h9 tk9 F9 N9 D9 P9
  obtain ⟨rfl, es9, hE9, rfl⟩ := P9
  simp only [List.append_nil] at N9
  clear D9
  (try dsimp only); (try k_fold)
  k_steps
  exact hret _ _ _ _ _ (by k_asm) N9 ⟨rfl, _, hE9, rfl⟩
theorem m_z0 (w : World) (x d : Addr) (b1 b5 b7 : Nat) (b8 b9 b10 : List Nat) (b11 : Bool) (o dx : Addr) (a : Int) (k1 k2 k3 t1 t2 t3 : Tok) (led : List (Addr × Obj)) (hne : @Ne Nat x d) (hL : OrdLed w x d ⟨b1, [], 0, [], b5, 0, b7, b8, b9, b10, b11⟩ led) :
    Mut w 4 218 [.ref x, .ref o] led (SignG w o dx 90 a k1 k2 k3 t1 t2 t3) (fun r new => r = .none ∧ OrdLed w x d ⟨b1, [], 0, [90], b5 + 1, 0, b7, b8, b9, b10, b11⟩ new) := by
  obtain ⟨es, ⟨T9, rfl⟩, rfl⟩ := hL
  (try dsimp only)
  refine Mut.enter (by k_is) (by k_is) (by exact rfl) (by exact locs rfl) (by decide) ?_ (by exact rfl) (by exact rfl) (by exact rfl) (by decide)
  intro mean mg mb dp un gd outer A₀ base g hp₁ gs₁ dr₁ tk₁ os₁ L' Q mF AF EF F' N' P' B' X' T' hdp hun hret
  obtain ⟨h1, h2⟩ := P'
  ktr_unf
  k_steps
  refine ⟨?_⟩
  rename News _ _ _ _ => NN
  first | replace NN := ordTake_news NN | replace NN := ordTake_news (ordTake_drop NN) | replace NN := ordTake_news (ordTake_drop (ordTake_drop NN)) | replace NN := ordTake_news (ordTake_drop (ordTake_drop (ordTake_drop NN))) | replace NN := ordTake_news (ordTake_drop (ordTake_drop (ordTake_drop (ordTake_drop NN)))) | replace NN := ordTake_news (ordTake_drop (ordTake_drop (ordTake_drop (ordTake_drop (ordTake_drop NN))))) | replace NN := ordTake_news (ordTake_drop (ordTake_drop (ordTake_drop (ordTake_drop (ordTake_drop (ordTake_drop NN))))))
  refine' Mut.use (tl := []) (m_addb0 w x d _ _ [90] (b5 + 1) _ _ _ _ _ _ _ _ _ _ hne ⟨_, ⟨_, rfl⟩, rfl⟩) ?v1 ?v2 ?v3 NN ?v5 rfl (by omega) (by omega) (fun p hp => hp) (fun p hp => nomatch hp) (fun p hp q hq => nomatch hq) (fun _ _ _ => trivial) ?_
  case v1 => k_asm
  case v2 => k_asm
  case v3 => k_asm
  case v5 => k_asm
  clear NN
  intro v9 new9 h9 tk9 F9 N9 D9 P9
  obtain ⟨rfl, es9, hE9, rfl⟩ := P9
  simp only [List.append_nil] at N9
  clear D9
  (try dsimp only); (try k_fold)
  k_steps
  exact hret _ _ _ _ _ (by k_asm) N9 ⟨rfl, _, hE9, rfl⟩
theorem m_z1 (w : World) (x d : Addr) (b1 b5 b7 : Nat) (b8 b9 b10 : List Nat) (b11 : Bool) (o dx : Addr) (a : Int) (k1 k2 k3 t1 t2 t3 : Tok) (led : List (Addr × Obj)) (hne : @Ne Nat x d) (hL : OrdLed w x d ⟨b1, [], 0, [90], b5, 0, b7, b8, b9, b10, b11⟩ led) :
    Mut w 4 218 [.ref x, .ref o] led (SignG w o dx 90 a k1 k2 k3 t1 t2 t3) (fun r new => r = .none ∧ OrdLed w x d ⟨b1, [], 0, [90], b5 + 1, 0, b7, b8, b9, b10, b11⟩ new) := by
  obtain ⟨es, ⟨T9, rfl⟩, rfl⟩ := hL
  (try dsimp only)
  refine Mut.enter (by k_is) (by k_is) (by exact rfl) (by exact locs rfl) (by decide) ?_ (by exact rfl) (by exact rfl) (by exact rfl) (by decide)
  intro mean mg mb dp un gd outer A₀ base g hp₁ gs₁ dr₁ tk₁ os₁ L' Q mF AF EF F' N' P' B' X' T' hdp hun hret
  obtain ⟨h1, h2⟩ := P'
  ktr_unf
  k_steps
  refine ⟨?_⟩
  rename News _ _ _ _ => NN
  first | replace NN := ordTake_news NN | replace NN := ordTake_news (ordTake_drop NN) | replace NN := ordTake_news (ordTake_drop (ordTake_drop NN)) | replace NN := ordTake_news (ordTake_drop (ordTake_drop (ordTake_drop NN))) | replace NN := ordTake_news (ordTake_drop (ordTake_drop (ordTake_drop (ordTake_drop NN)))) | replace NN := ordTake_news (ordTake_drop (ordTake_drop (ordTake_drop (ordTake_drop (ordTake_drop NN))))) | replace NN := ordTake_news (ordTake_drop (ordTake_drop (ordTake_drop (ordTake_drop (ordTake_drop (ordTake_drop NN))))))
  refine' Mut.use (tl := []) (m_addb0 w x d _ _ [90] (b5 + 1) _ _ _ _ _ _ _ _ _ _ hne ⟨_, ⟨_, rfl⟩, rfl⟩) ?v1 ?v2 ?v3 NN ?v5 rfl (by omega) (by omega) (fun p hp => hp) (fun p hp => nomatch hp) (fun p hp q hq => nomatch hq) (fun _ _ _ => trivial) ?_
  case v1 => k_asm
  case v2 => k_asm
  case v3 => k_asm
  case v5 => k_asm
  clear NN
  intro v9 new9 h9 tk9 F9 N9 D9 P9
  obtain ⟨rfl, es9, hE9, rfl⟩ := P9
  simp only [List.append_nil] at N9
  clear D9
  (try dsimp only); (try k_fold)
  k_steps
  exact hret _ _ _ _ _ (by k_asm) N9 ⟨rfl, _, hE9, rfl⟩
theorem m_s0 (w : World) (x d : Addr) (b1 b5 b7 : Nat) (b8 b9 b10 : List Nat) (b11 : Bool) (o dx : Addr) (a : Int) (k1 k2 k3 t1 t2 t3 : Tok) (led : List (Addr × Obj)) (hne : @Ne Nat x d) (hL : OrdLed w x d ⟨b1, [], 0, [], b5, 0, b7, b8, b9, b10, b11⟩ led) :
    Mut w 4 218 [.ref x, .ref o] led (SignG w o dx 42 a k1 k2 k3 t1 t2 t3) (fun r new => r = .none ∧ OrdLed w x d ⟨b1, [], 0, [42], b5 + 1, 0, b7, b8, b9, b10, b11⟩ new) := by
  obtain ⟨es, ⟨T9, rfl⟩, rfl⟩ := hL
  (try dsimp only)
  refine Mut.enter (by k_is) (by k_is) (by exact rfl) (by exact locs rfl) (by decide) ?_ (by exact rfl) (by exact rfl) (by exact rfl) (by decide)
  intro mean mg mb dp un gd outer A₀ base g hp₁ gs₁ dr₁ tk₁ os₁ L' Q mF AF EF F' N' P' B' X' T' hdp hun hret
  obtain ⟨h1, h2⟩ := P'
  ktr_unf
  k_steps
  refine ⟨?_⟩
  rename News _ _ _ _ => NN
  first | replace NN := ordTake_news NN | replace NN := ordTake_news (ordTake_drop NN) | replace NN := ordTake_news (ordTake_drop (ordTake_drop NN)) | replace NN := ordTake_news (ordTake_drop (ordTake_drop (ordTake_drop NN))) | replace NN := ordTake_news (ordTake_drop (ordTake_drop (ordTake_drop (ordTake_drop NN)))) | replace NN := ordTake_news (ordTake_drop (ordTake_drop (ordTake_drop (ordTake_drop (ordTake_drop NN))))) | replace NN := ordTake_news (ordTake_drop (ordTake_drop (ordTake_drop (ordTake_drop (ordTake_drop (ordTake_drop NN))))))
  refine' Mut.use (tl := []) (m_addb0 w x d _ _ [42] (b5 + 1) _ _ _ _ _ _ _ _ _ _ hne ⟨_, ⟨_, rfl⟩, rfl⟩) ?v1 ?v2 ?v3 NN ?v5 rfl (by omega) (by omega) (fun p hp => hp) (fun p hp => nomatch hp) (fun p hp q hq => nomatch hq) (fun _ _ _ => trivial) ?_
  case v1 => k_asm
  case v2 => k_asm
  case v3 => k_asm
  case v5 => k_asm
  clear NN
  intro v9 new9 h9 tk9 F9 N9 D9 P9
  obtain ⟨rfl, es9, hE9, rfl⟩ := P9
  simp only [List.append_nil] at N9
  clear D9
  (try dsimp only); (try k_fold)
  k_steps
  exact hret _ _ _ _ _ (by k_asm) N9 ⟨rfl, _, hE9, rfl⟩
theorem m_s1 (w : World) (x d : Addr) (b1 b5 b7 : Nat) (b8 b9 b10 : List Nat) (b11 : Bool) (o dx : Addr) (a : Int) (k1 k2 k3 t1 t2 t3 : Tok) (led : List (Addr × Obj)) (hne : @Ne Nat x d) (hL : OrdLed w x d ⟨b1, [], 0, [42], b5, 0, b7, b8, b9, b10, b11⟩ led) :
    Mut w 4 218 [.ref x, .ref o] led (SignG w o dx 42 a k1 k2 k3 t1 t2 t3) (fun r new => r = .none ∧ OrdLed w x d ⟨b1, [], 0, [42], b5 + 1, 0, b7, b8, b9, b10, b11⟩ new) := by
  obtain ⟨es, ⟨T9, rfl⟩, rfl⟩ := hL
  (try dsimp only)
  refine Mut.enter (by k_is) (by k_is) (by exact rfl) (by exact locs rfl) (by decide) ?_ (by exact rfl) (by exact rfl) (by exact rfl) (by decide)
  intro mean mg mb dp un gd outer A₀ base g hp₁ gs₁ dr₁ tk₁ os₁ L' Q mF AF EF F' N' P' B' X' T' hdp hun hret
  obtain ⟨h1, h2⟩ := P'
  ktr_unf
  k_steps
  refine ⟨?_⟩
  rename News _ _ _ _ => NN
  first | replace NN := ordTake_news NN | replace NN := ordTake_news (ordTake_drop NN) | replace NN := ordTake_news (ordTake_drop (ordTake_drop NN)) | replace NN := ordTake_news (ordTake_drop (ordTake_drop (ordTake_drop NN))) | replace NN := ordTake_news (ordTake_drop (ordTake_drop (ordTake_drop (ordTake_drop NN)))) | replace NN := ordTake_news (ordTake_drop (ordTake_drop (ordTake_drop (ordTake_drop (ordTake_drop NN))))) | replace NN := ordTake_news (ordTake_drop (ordTake_drop (ordTake_drop (ordTake_drop (ordTake_drop (ordTake_drop NN))))))
  refine' Mut.use (tl := []) (m_addb0 w x d _ _ [42] (b5 + 1) _ _ _ _ _ _ _ _ _ _ hne ⟨_, ⟨_, rfl⟩, rfl⟩) ?v1 ?v2 ?v3 NN ?v5 rfl (by omega) (by omega) (fun p hp => hp) (fun p hp => nomatch hp) (fun p hp q hq => nomatch hq) (fun _ _ _ => trivial) ?_
  case v1 => k_asm
  case v2 => k_asm
  case v3 => k_asm
  case v5 => k_asm
  clear NN
  intro v9 new9 h9 tk9 F9 N9 D9 P9
  obtain ⟨rfl, es9, hE9, rfl⟩ := P9
  simp only [List.append_nil] at N9
  clear D9
  (try dsimp only); (try k_fold)
  k_steps
  exact hret _ _ _ _ _ (by k_asm) N9 ⟨rfl, _, hE9, rfl⟩
theorem m_point (w : World) (x d : Addr) (b1 b3 : Nat) (b4 : List Nat) (b5 b6 b7 : Nat) (b8 b9 b10 : List Nat) (b11 : Bool) (o dx : Addr) (a : Int) (k1 k2 k3 t1 t2 t3 : Tok) (led : List (Addr × Obj)) (hne : @Ne Nat x d) (hL : OrdLed w x d ⟨b1, [], b3, b4, b5, b6, b7, b8, b9, b10, b11⟩ led) :
    Mut w 4 225 [.ref x, .ref o] led (SignG w o dx 46 a k1 k2 k3 t1 t2 t3) (fun r new => r = .none ∧ OrdLed w x d ⟨b1, [46], b3, b4, b5, b6, b7, b8, b9, b10, b11⟩ new) := by
  obtain ⟨es, ⟨T9, rfl⟩, rfl⟩ := hL
  (try dsimp only)
  refine Mut.enter (by k_is) (by k_is) (by exact rfl) (by exact locs rfl) (by decide) ?_ (by exact rfl) (by exact rfl) (by exact rfl) (by decide)
  intro mean mg mb dp un gd outer A₀ base g hp₁ gs₁ dr₁ tk₁ os₁ L' Q mF AF EF F' N' P' B' X' T' hdp hun hret
  obtain ⟨h1, h2⟩ := P'
  ktr_unf
  k_steps
  rename News _ _ _ _ => NN
  first | replace NN := ordTake_news NN | replace NN := ordTake_news (ordTake_drop NN) | replace NN := ordTake_news (ordTake_drop (ordTake_drop NN)) | replace NN := ordTake_news (ordTake_drop (ordTake_drop (ordTake_drop NN))) | replace NN := ordTake_news (ordTake_drop (ordTake_drop (ordTake_drop (ordTake_drop NN)))) | replace NN := ordTake_news (ordTake_drop (ordTake_drop (ordTake_drop (ordTake_drop (ordTake_drop NN))))) | replace NN := ordTake_news (ordTake_drop (ordTake_drop (ordTake_drop (ordTake_drop (ordTake_drop (ordTake_drop NN))))))
  exact hret _ _ _ _ _ (by k_asm) NN ⟨rfl, _, ⟨_, rfl⟩, rfl⟩
theorem m_ins (w : World) (x d : Addr) (c b1 : Nat) (b2 : List Nat) (b3 : Nat) (b4 : List Nat) (b5 b6 b7 : Nat) (b8 b9 b10 : List Nat) (b11 : Bool) (o dx : Addr) (a : Int) (k1 k2 k3 t1 t2 t3 : Tok) (led : List (Addr × Obj)) (hne : @Ne Nat x d) (hL : OrdLed w x d ⟨b1, b2, b3, b4, b5, b6, b7, b8, b9, b10, b11⟩ led) :
    Mut w 4 239 [.ref x, .ref o] led (SignG w o dx c a k1 k2 k3 t1 t2 t3) (fun r new => r = .none ∧ OrdLed w x d ⟨b1, b2, b3, b4, b5, b6, b7, b8, b9, b10, true⟩ new) := by
  obtain ⟨es, ⟨T9, rfl⟩, rfl⟩ := hL
  (try dsimp only)
  refine Mut.enter (by k_is) (by k_is) (by exact rfl) (by exact locs rfl) (by decide) ?_ (by exact rfl) (by exact rfl) (by exact rfl) (by decide)
  intro mean mg mb dp un gd outer A₀ base g hp₁ gs₁ dr₁ tk₁ os₁ L' Q mF AF EF F' N' P' B' X' T' hdp hun hret
  obtain ⟨h1, h2⟩ := P'
  ktr_unf
  k_steps
  rename News _ _ _ _ => NN
  first | replace NN := ordTake_news NN | replace NN := ordTake_news (ordTake_drop NN) | replace NN := ordTake_news (ordTake_drop (ordTake_drop NN)) | replace NN := ordTake_news (ordTake_drop (ordTake_drop (ordTake_drop NN))) | replace NN := ordTake_news (ordTake_drop (ordTake_drop (ordTake_drop (ordTake_drop NN)))) | replace NN := ordTake_news (ordTake_drop (ordTake_drop (ordTake_drop (ordTake_drop (ordTake_drop NN))))) | replace NN := ordTake_news (ordTake_drop (ordTake_drop (ordTake_drop (ordTake_drop (ordTake_drop (ordTake_drop NN))))))
  exact hret _ _ _ _ _ (by k_asm) NN ⟨rfl, _, ⟨_, rfl⟩, rfl⟩
theorem m_float (w : World) (x d : Addr) (o : Value) (b1 b3 : Nat) (b4 : List Nat) (b5 b6 b7 : Nat) (b8 b9 b10 : List Nat) (b11 : Bool) (k : Nat) (t : Tok) (led : List (Addr × Obj)) (hne : @Ne Nat x d) (hL : OrdLed w x d ⟨b1, [], b3, b4, b5, b6, b7, b8, b9, b10, b11⟩ led) :
    Mut w 5 246 [.ref x, o, .int (k : Int) t] led (fun _ => True) (fun r new => r = .none ∧ OrdLed w x d ⟨b1, [], b3, b4, b5, b6 + k, b7, b8, b9, b10, b11⟩ new) := by
  obtain ⟨es, ⟨T9, rfl⟩, rfl⟩ := hL
  (try dsimp only)
  refine Mut.enter (by k_is) (by k_is) (by exact rfl) (by exact locs rfl) (by decide) ?_ (by exact rfl) (by exact rfl) (by exact rfl) (by decide)
  intro mean mg mb dp un gd outer A₀ base g hp₁ gs₁ dr₁ tk₁ os₁ L' Q mF AF EF F' N' P' B' X' T' hdp hun hret
  ktr_unf
  k_steps
  refine ⟨?_⟩
  rename News _ _ _ _ => NN
  first | replace NN := ordTake_news NN | replace NN := ordTake_news (ordTake_drop NN) | replace NN := ordTake_news (ordTake_drop (ordTake_drop NN)) | replace NN := ordTake_news (ordTake_drop (ordTake_drop (ordTake_drop NN))) | replace NN := ordTake_news (ordTake_drop (ordTake_drop (ordTake_drop (ordTake_drop NN)))) | replace NN := ordTake_news (ordTake_drop (ordTake_drop (ordTake_drop (ordTake_drop (ordTake_drop NN))))) | replace NN := ordTake_news (ordTake_drop (ordTake_drop (ordTake_drop (ordTake_drop (ordTake_drop (ordTake_drop NN))))))
  refine' Mut.use (tl := []) (m_addb0 w x d _ _ _ _ (b6 + k) _ _ _ _ _ _ _ _ _ hne ⟨_, ⟨_, rfl⟩, rfl⟩) ?v1 ?v2 ?v3 NN ?v5 rfl (by omega) (by omega) (fun p hp => hp) (fun p hp => nomatch hp) (fun p hp q hq => nomatch hq) (fun _ _ _ => trivial) ?_
  case v1 => k_asm
  case v2 => k_asm
  case v3 => k_asm
  case v5 => k_asm
  clear NN
  intro v9 new9 h9 tk9 F9 N9 D9 P9
  obtain ⟨rfl, es9, hE9, rfl⟩ := P9
  simp only [List.append_nil] at N9
  clear D9
  (try dsimp only); (try k_fold)
  k_steps
  exact hret _ _ _ _ _ (by k_asm) N9 ⟨rfl, _, hE9, rfl⟩
theorem m_p0 (w : World) (x d : Addr) (b3 : Nat) (b4 : List Nat) (b5 b6 b7 : Nat) (b8 b9 b10 : List Nat) (b11 : Bool) (o dx : Addr) (a : Int) (k1 k2 k3 t1 t2 t3 : Tok) (led : List (Addr × Obj)) (hne : @Ne Nat x d) (hL : OrdLed w x d ⟨0, [], b3, b4, b5, b6, b7, b8, b9, b10, b11⟩ led) :
    Mut w 7 260 [.ref x, .ref o] led (SignG w o dx 43 a k1 k2 k3 t1 t2 t3) (fun r new => r = .none ∧ OrdLed w x d ⟨0, [], b3, b4, b5, b6, b7, [43], b9, b10, b11⟩ new) := by
  obtain ⟨es, ⟨T9, rfl⟩, rfl⟩ := hL
  (try dsimp only)
  refine Mut.enter (by k_is) (by k_is) (by exact rfl) (by exact locs rfl) (by decide) ?_ (by exact rfl) (by exact rfl) (by exact rfl) (by decide)
  intro mean mg mb dp un gd outer A₀ base g hp₁ gs₁ dr₁ tk₁ os₁ L' Q mF AF EF F' N' P' B' X' T' hdp hun hret
  obtain ⟨h1, h2⟩ := P'
  ktr_unf
  k_steps
  refine ⟨?_⟩
  rename News _ _ _ _ => NN
  first | replace NN := ordTake_news NN | replace NN := ordTake_news (ordTake_drop NN) | replace NN := ordTake_news (ordTake_drop (ordTake_drop NN)) | replace NN := ordTake_news (ordTake_drop (ordTake_drop (ordTake_drop NN))) | replace NN := ordTake_news (ordTake_drop (ordTake_drop (ordTake_drop (ordTake_drop NN)))) | replace NN := ordTake_news (ordTake_drop (ordTake_drop (ordTake_drop (ordTake_drop (ordTake_drop NN))))) | replace NN := ordTake_news (ordTake_drop (ordTake_drop (ordTake_drop (ordTake_drop (ordTake_drop (ordTake_drop NN))))))
  refine' Mut.use (tl := []) (m_float w x d _ 0 _ _ _ _ _ [43] _ _ _ 0 _ _ hne ⟨_, ⟨_, rfl⟩, rfl⟩) ?v1 ?v2 ?v3 NN ?v5 rfl (by omega) (by omega) (fun p hp => hp) (fun p hp => nomatch hp) (fun p hp q hq => nomatch hq) (fun _ _ _ => trivial) ?_
  case v1 => k_asm
  case v2 => k_asm
  case v3 => k_asm
  case v5 => k_asm
  clear NN
  intro v9 new9 h9 tk9 F9 N9 D9 P9
  obtain ⟨rfl, es9, hE9, rfl⟩ := P9
  simp only [List.append_nil] at N9
  clear D9
  (try dsimp only); (try k_fold)
  k_steps
  exact hret _ _ _ _ _ (by k_asm) N9 ⟨rfl, _, hE9, rfl⟩
theorem m_p1 (w : World) (x d : Addr) (b1 : Nat) (b4 : List Nat) (b6 b7 : Nat) (b10 : List Nat) (b11 : Bool) (hb : b1 ≠ 0) (o dx : Addr) (a : Int) (k1 k2 k3 t1 t2 t3 : Tok) (led : List (Addr × Obj)) (hne : @Ne Nat x d) (hL : OrdLed w x d ⟨b1, [], 0, b4, 0, b6, b7, [43], [], b10, b11⟩ led) :
    Mut w 7 260 [.ref x, .ref o] led (SignG w o dx 43 a k1 k2 k3 t1 t2 t3) (fun r new => r = .none ∧ OrdLed w x d ⟨b1, [], 0, b4, 0, b6 + 1, b7, [43], [], b10, b11⟩ new) := by
  obtain ⟨es, ⟨T9, rfl⟩, rfl⟩ := hL
  (try dsimp only)
  refine Mut.enter (by k_is) (by k_is) (by exact rfl) (by exact locs rfl) (by decide) ?_ (by exact rfl) (by exact rfl) (by exact rfl) (by decide)
  intro mean mg mb dp un gd outer A₀ base g hp₁ gs₁ dr₁ tk₁ os₁ L' Q mF AF EF F' N' P' B' X' T' hdp hun hret
  obtain ⟨h1, h2⟩ := P'
  ktr_unf
  k_steps
  refine ⟨?_⟩
  rename News _ _ _ _ => NN
  first | replace NN := ordTake_news NN | replace NN := ordTake_news (ordTake_drop NN) | replace NN := ordTake_news (ordTake_drop (ordTake_drop NN)) | replace NN := ordTake_news (ordTake_drop (ordTake_drop (ordTake_drop NN))) | replace NN := ordTake_news (ordTake_drop (ordTake_drop (ordTake_drop (ordTake_drop NN)))) | replace NN := ordTake_news (ordTake_drop (ordTake_drop (ordTake_drop (ordTake_drop (ordTake_drop NN))))) | replace NN := ordTake_news (ordTake_drop (ordTake_drop (ordTake_drop (ordTake_drop (ordTake_drop (ordTake_drop NN))))))
  refine' Mut.use (tl := []) (m_float w x d _ _ _ _ _ _ _ _ _ _ _ 1 _ _ hne ⟨_, ⟨_, rfl⟩, rfl⟩) ?v1 ?v2 ?v3 NN ?v5 rfl (by omega) (by omega) (fun p hp => hp) (fun p hp => nomatch hp) (fun p hp q hq => nomatch hq) (fun _ _ _ => trivial) ?_
  case v1 => k_asm
  case v2 => k_asm
  case v3 => k_asm
  case v5 => k_asm
  clear NN
  intro v9 new9 h9 tk9 F9 N9 D9 P9
  obtain ⟨rfl, es9, hE9, rfl⟩ := P9
  simp only [List.append_nil] at N9
  clear D9
  (try dsimp only); (try k_fold)
  k_steps
  exact hret _ _ _ _ _ (by k_asm) N9 ⟨rfl, _, hE9, rfl⟩
theorem m_m0 (w : World) (x d : Addr) (b3 : Nat) (b4 : List Nat) (b5 b6 b7 : Nat) (b8 b9 b10 : List Nat) (b11 : Bool) (o dx : Addr) (a : Int) (k1 k2 k3 t1 t2 t3 : Tok) (led : List (Addr × Obj)) (hne : @Ne Nat x d) (hL : OrdLed w x d ⟨0, [], b3, b4, b5, b6, b7, b8, b9, b10, b11⟩ led) :
    Mut w 7 260 [.ref x, .ref o] led (SignG w o dx 45 a k1 k2 k3 t1 t2 t3) (fun r new => r = .none ∧ OrdLed w x d ⟨0, [], b3, b4, b5, b6, b7, [45], b9, b10, b11⟩ new) := by
  obtain ⟨es, ⟨T9, rfl⟩, rfl⟩ := hL
  (try dsimp only)
  refine Mut.enter (by k_is) (by k_is) (by exact rfl) (by exact locs rfl) (by decide) ?_ (by exact rfl) (by exact rfl) (by exact rfl) (by decide)
  intro mean mg mb dp un gd outer A₀ base g hp₁ gs₁ dr₁ tk₁ os₁ L' Q mF AF EF F' N' P' B' X' T' hdp hun hret
  obtain ⟨h1, h2⟩ := P'
  ktr_unf
  k_steps
  refine ⟨?_⟩
  rename News _ _ _ _ => NN
  first | replace NN := ordTake_news NN | replace NN := ordTake_news (ordTake_drop NN) | replace NN := ordTake_news (ordTake_drop (ordTake_drop NN)) | replace NN := ordTake_news (ordTake_drop (ordTake_drop (ordTake_drop NN))) | replace NN := ordTake_news (ordTake_drop (ordTake_drop (ordTake_drop (ordTake_drop NN)))) | replace NN := ordTake_news (ordTake_drop (ordTake_drop (ordTake_drop (ordTake_drop (ordTake_drop NN))))) | replace NN := ordTake_news (ordTake_drop (ordTake_drop (ordTake_drop (ordTake_drop (ordTake_drop (ordTake_drop NN))))))
  refine' Mut.use (tl := []) (m_float w x d _ 0 _ _ _ _ _ [45] _ _ _ 0 _ _ hne ⟨_, ⟨_, rfl⟩, rfl⟩) ?v1 ?v2 ?v3 NN ?v5 rfl (by omega) (by omega) (fun p hp => hp) (fun p hp => nomatch hp) (fun p hp q hq => nomatch hq) (fun _ _ _ => trivial) ?_
  case v1 => k_asm
  case v2 => k_asm
  case v3 => k_asm
  case v5 => k_asm
  clear NN
  intro v9 new9 h9 tk9 F9 N9 D9 P9
  obtain ⟨rfl, es9, hE9, rfl⟩ := P9
  simp only [List.append_nil] at N9
  clear D9
  (try dsimp only); (try k_fold)
  k_steps
  exact hret _ _ _ _ _ (by k_asm) N9 ⟨rfl, _, hE9, rfl⟩
theorem m_m1 (w : World) (x d : Addr) (b1 : Nat) (b4 : List Nat) (b6 b7 : Nat) (b10 : List Nat) (b11 : Bool) (hb : b1 ≠ 0) (o dx : Addr) (a : Int) (k1 k2 k3 t1 t2 t3 : Tok) (led : List (Addr × Obj)) (hne : @Ne Nat x d) (hL : OrdLed w x d ⟨b1, [], 0, b4, 0, b6, b7, [45], [], b10, b11⟩ led) :
    Mut w 7 260 [.ref x, .ref o] led (SignG w o dx 45 a k1 k2 k3 t1 t2 t3) (fun r new => r = .none ∧ OrdLed w x d ⟨b1, [], 0, b4, 0, b6 + 1, b7, [45], [], b10, b11⟩ new) := by
  obtain ⟨es, ⟨T9, rfl⟩, rfl⟩ := hL
  (try dsimp only)
  refine Mut.enter (by k_is) (by k_is) (by exact rfl) (by exact locs rfl) (by decide) ?_ (by exact rfl) (by exact rfl) (by exact rfl) (by decide)
  intro mean mg mb dp un gd outer A₀ base g hp₁ gs₁ dr₁ tk₁ os₁ L' Q mF AF EF F' N' P' B' X' T' hdp hun hret
  obtain ⟨h1, h2⟩ := P'
  ktr_unf
  k_steps
  refine ⟨?_⟩
  rename News _ _ _ _ => NN
  first | replace NN := ordTake_news NN | replace NN := ordTake_news (ordTake_drop NN) | replace NN := ordTake_news (ordTake_drop (ordTake_drop NN)) | replace NN := ordTake_news (ordTake_drop (ordTake_drop (ordTake_drop NN))) | replace NN := ordTake_news (ordTake_drop (ordTake_drop (ordTake_drop (ordTake_drop NN)))) | replace NN := ordTake_news (ordTake_drop (ordTake_drop (ordTake_drop (ordTake_drop (ordTake_drop NN))))) | replace NN := ordTake_news (ordTake_drop (ordTake_drop (ordTake_drop (ordTake_drop (ordTake_drop (ordTake_drop NN))))))
  refine' Mut.use (tl := []) (m_float w x d _ _ _ _ _ _ _ _ _ _ _ 1 _ _ hne ⟨_, ⟨_, rfl⟩, rfl⟩) ?v1 ?v2 ?v3 NN ?v5 rfl (by omega) (by omega) (fun p hp => hp) (fun p hp => nomatch hp) (fun p hp q hq => nomatch hq) (fun _ _ _ => trivial) ?_
  case v1 => k_asm
  case v2 => k_asm
  case v3 => k_asm
  case v5 => k_asm
  clear NN
  intro v9 new9 h9 tk9 F9 N9 D9 P9
  obtain ⟨rfl, es9, hE9, rfl⟩ := P9
  simp only [List.append_nil] at N9
  clear D9
  (try dsimp only); (try k_fold)
  k_steps
  exact hret _ _ _ _ _ (by k_asm) N9 ⟨rfl, _, hE9, rfl⟩
theorem m_d0 (w : World) (x d : Addr) (b3 : Nat) (b4 : List Nat) (b5 b6 b7 : Nat) (b8 b10 : List Nat) (b11 : Bool) (o dx : Addr) (a : Int) (k1 k2 k3 t1 t2 t3 : Tok) (led : List (Addr × Obj)) (hne : @Ne Nat x d) (hL : OrdLed w x d ⟨0, [], b3, b4, b5, b6, b7, b8, [], b10, b11⟩ led) :
    Mut w 7 267 [.ref x, .ref o] led (SignG w o dx 36 a k1 k2 k3 t1 t2 t3) (fun r new => r = .none ∧ OrdLed w x d ⟨0, [], b3, b4, b5, b6, b7, b8, [36], b10, b11⟩ new) := by
  obtain ⟨es, ⟨T9, rfl⟩, rfl⟩ := hL
  (try dsimp only)
  refine Mut.enter (by k_is) (by k_is) (by exact rfl) (by exact locs rfl) (by decide) ?_ (by exact rfl) (by exact rfl) (by exact rfl) (by decide)
  intro mean mg mb dp un gd outer A₀ base g hp₁ gs₁ dr₁ tk₁ os₁ L' Q mF AF EF F' N' P' B' X' T' hdp hun hret
  obtain ⟨h1, h2⟩ := P'
  ktr_unf
  k_steps
  refine ⟨?_⟩
  rename News _ _ _ _ => NN
  first | replace NN := ordTake_news NN | replace NN := ordTake_news (ordTake_drop NN) | replace NN := ordTake_news (ordTake_drop (ordTake_drop NN)) | replace NN := ordTake_news (ordTake_drop (ordTake_drop (ordTake_drop NN))) | replace NN := ordTake_news (ordTake_drop (ordTake_drop (ordTake_drop (ordTake_drop NN)))) | replace NN := ordTake_news (ordTake_drop (ordTake_drop (ordTake_drop (ordTake_drop (ordTake_drop NN))))) | replace NN := ordTake_news (ordTake_drop (ordTake_drop (ordTake_drop (ordTake_drop (ordTake_drop (ordTake_drop NN))))))
  refine' Mut.use (tl := []) (m_float w x d _ 0 _ _ _ _ _ _ [36] _ _ 0 _ _ hne ⟨_, ⟨_, rfl⟩, rfl⟩) ?v1 ?v2 ?v3 NN ?v5 rfl (by omega) (by omega) (fun p hp => hp) (fun p hp => nomatch hp) (fun p hp q hq => nomatch hq) (fun _ _ _ => trivial) ?_
  case v1 => k_asm
  case v2 => k_asm
  case v3 => k_asm
  case v5 => k_asm
  clear NN
  intro v9 new9 h9 tk9 F9 N9 D9 P9
  obtain ⟨rfl, es9, hE9, rfl⟩ := P9
  simp only [List.append_nil] at N9
  clear D9
  (try dsimp only); (try k_fold)
  k_steps
  exact hret _ _ _ _ _ (by k_asm) N9 ⟨rfl, _, hE9, rfl⟩
theorem m_d1 (w : World) (x d : Addr) (b1 : Nat) (b4 : List Nat) (b6 b7 : Nat) (b8 b10 : List Nat) (b11 : Bool) (o dx : Addr) (a : Int) (k1 k2 k3 t1 t2 t3 : Tok) (led : List (Addr × Obj)) (hne : @Ne Nat x d) (hL : OrdLed w x d ⟨b1, [], 0, b4, 0, b6, b7, b8, [36], b10, b11⟩ led) :
    Mut w 7 267 [.ref x, .ref o] led (SignG w o dx 36 a k1 k2 k3 t1 t2 t3) (fun r new => r = .none ∧ OrdLed w x d ⟨b1, [], 0, b4, 0, b6 + 1, b7, b8, [36], b10, b11⟩ new) := by
  obtain ⟨es, ⟨T9, rfl⟩, rfl⟩ := hL
  (try dsimp only)
  refine Mut.enter (by k_is) (by k_is) (by exact rfl) (by exact locs rfl) (by decide) ?_ (by exact rfl) (by exact rfl) (by exact rfl) (by decide)
  intro mean mg mb dp un gd outer A₀ base g hp₁ gs₁ dr₁ tk₁ os₁ L' Q mF AF EF F' N' P' B' X' T' hdp hun hret
  obtain ⟨h1, h2⟩ := P'
  ktr_unf
  k_steps
  refine ⟨?_⟩
  rename News _ _ _ _ => NN
  first | replace NN := ordTake_news NN | replace NN := ordTake_news (ordTake_drop NN) | replace NN := ordTake_news (ordTake_drop (ordTake_drop NN)) | replace NN := ordTake_news (ordTake_drop (ordTake_drop (ordTake_drop NN))) | replace NN := ordTake_news (ordTake_drop (ordTake_drop (ordTake_drop (ordTake_drop NN)))) | replace NN := ordTake_news (ordTake_drop (ordTake_drop (ordTake_drop (ordTake_drop (ordTake_drop NN))))) | replace NN := ordTake_news (ordTake_drop (ordTake_drop (ordTake_drop (ordTake_drop (ordTake_drop (ordTake_drop NN))))))
  refine' Mut.use (tl := []) (m_float w x d _ _ _ _ _ _ _ _ _ _ _ 1 _ _ hne ⟨_, ⟨_, rfl⟩, rfl⟩) ?v1 ?v2 ?v3 NN ?v5 rfl (by omega) (by omega) (fun p hp => hp) (fun p hp => nomatch hp) (fun p hp q hq => nomatch hq) (fun _ _ _ => trivial) ?_
  case v1 => k_asm
  case v2 => k_asm
  case v3 => k_asm
  case v5 => k_asm
  clear NN
  intro v9 new9 h9 tk9 F9 N9 D9 P9
  obtain ⟨rfl, es9, hE9, rfl⟩ := P9
  simp only [List.append_nil] at N9
  clear D9
  (try dsimp only); (try k_fold)
  k_steps
  exact hret _ _ _ _ _ (by k_asm) N9 ⟨rfl, _, hE9, rfl⟩
theorem m_tk57 (w : World) (x d : Addr) (st st' : OS) (o dx : Addr) (a : Int) (k1 k2 k3 t1 t2 t3 : Tok) (led : List (Addr × Obj)) (hne : @Ne Nat x d) (C : Mut w 4 211 [.ref x, .ref o] led (SignG w o dx 57 a k1 k2 k3 t1 t2 t3) (fun r new => r = .none ∧ OrdLed w x d st' new)) (hL : OrdLed w x d st led) :
    Mut w 10 281 [.ref x, .ref o] led (SignG w o dx 57 a k1 k2 k3 t1 t2 t3) (fun r new => r = .none ∧ OrdLed w x d { st' with seen := st'.seen + 1, last := [57] } new) := by
  obtain ⟨es, ⟨T9, rfl⟩, rfl⟩ := hL
  (try dsimp only)
  refine Mut.enter (by k_is) (by k_is) (by exact rfl) (by exact locs rfl) (by decide) ?_ (by exact rfl) (by exact rfl) (by exact rfl) (by decide)
  intro mean mg mb dp un gd outer A₀ base g hp₁ gs₁ dr₁ tk₁ os₁ L' Q mF AF EF F' N' P' B' X' T' hdp hun hret
  obtain ⟨h1, h2⟩ := P'
  ktr_unf
  k_steps
  refine ⟨?_⟩
  rename News _ _ _ _ => NN
  first | replace NN := ordTake_news NN | replace NN := ordTake_news (ordTake_drop NN) | replace NN := ordTake_news (ordTake_drop (ordTake_drop NN)) | replace NN := ordTake_news (ordTake_drop (ordTake_drop (ordTake_drop NN))) | replace NN := ordTake_news (ordTake_drop (ordTake_drop (ordTake_drop (ordTake_drop NN)))) | replace NN := ordTake_news (ordTake_drop (ordTake_drop (ordTake_drop (ordTake_drop (ordTake_drop NN))))) | replace NN := ordTake_news (ordTake_drop (ordTake_drop (ordTake_drop (ordTake_drop (ordTake_drop (ordTake_drop NN))))))
  refine' Mut.use (tl := []) (C) ?v1 ?v2 ?v3 NN ?v5 rfl (by omega) (by omega) (fun p hp => hp) (fun p hp => nomatch hp) (fun p hp q hq => nomatch hq) (fun _ k _ => ⟨k _ _ h1, k _ _ h2⟩) ?_
  case v1 => k_asm
  case v2 => k_asm
  case v3 => k_asm
  case v5 => k_asm
  clear NN
  intro v9 new9 h9 tk9 F9 N9 D9 P9
  obtain ⟨rfl, es9, hE9, rfl⟩ := P9
  simp only [List.append_nil] at N9
  clear D9
  (try dsimp only); (try k_fold)
  obtain ⟨T9, rfl⟩ := hE9
  k_steps
  rename News _ _ _ _ => NN
  first | replace NN := ordTake_news NN | replace NN := ordTake_news (ordTake_drop NN) | replace NN := ordTake_news (ordTake_drop (ordTake_drop NN)) | replace NN := ordTake_news (ordTake_drop (ordTake_drop (ordTake_drop NN))) | replace NN := ordTake_news (ordTake_drop (ordTake_drop (ordTake_drop (ordTake_drop NN)))) | replace NN := ordTake_news (ordTake_drop (ordTake_drop (ordTake_drop (ordTake_drop (ordTake_drop NN))))) | replace NN := ordTake_news (ordTake_drop (ordTake_drop (ordTake_drop (ordTake_drop (ordTake_drop (ordTake_drop NN))))))
  exact hret _ _ _ _ _ (by k_asm) NN ⟨rfl, _, ⟨_, rfl⟩, rfl⟩
theorem m_tk90 (w : World) (x d : Addr) (st st' : OS) (o dx : Addr) (a : Int) (k1 k2 k3 t1 t2 t3 : Tok) (led : List (Addr × Obj)) (hne : @Ne Nat x d) (C : Mut w 4 218 [.ref x, .ref o] led (SignG w o dx 90 a k1 k2 k3 t1 t2 t3) (fun r new => r = .none ∧ OrdLed w x d st' new)) (hL : OrdLed w x d st led) :
    Mut w 10 281 [.ref x, .ref o] led (SignG w o dx 90 a k1 k2 k3 t1 t2 t3) (fun r new => r = .none ∧ OrdLed w x d { st' with seen := st'.seen + 1, last := [90] } new) := by
  obtain ⟨es, ⟨T9, rfl⟩, rfl⟩ := hL
  (try dsimp only)
  refine Mut.enter (by k_is) (by k_is) (by exact rfl) (by exact locs rfl) (by decide) ?_ (by exact rfl) (by exact rfl) (by exact rfl) (by decide)
  intro mean mg mb dp un gd outer A₀ base g hp₁ gs₁ dr₁ tk₁ os₁ L' Q mF AF EF F' N' P' B' X' T' hdp hun hret
  obtain ⟨h1, h2⟩ := P'
  ktr_unf
  k_steps
  refine ⟨?_⟩
  rename News _ _ _ _ => NN
  first | replace NN := ordTake_news NN | replace NN := ordTake_news (ordTake_drop NN) | replace NN := ordTake_news (ordTake_drop (ordTake_drop NN)) | replace NN := ordTake_news (ordTake_drop (ordTake_drop (ordTake_drop NN))) | replace NN := ordTake_news (ordTake_drop (ordTake_drop (ordTake_drop (ordTake_drop NN)))) | replace NN := ordTake_news (ordTake_drop (ordTake_drop (ordTake_drop (ordTake_drop (ordTake_drop NN))))) | replace NN := ordTake_news (ordTake_drop (ordTake_drop (ordTake_drop (ordTake_drop (ordTake_drop (ordTake_drop NN))))))
  refine' Mut.use (tl := []) (C) ?v1 ?v2 ?v3 NN ?v5 rfl (by omega) (by omega) (fun p hp => hp) (fun p hp => nomatch hp) (fun p hp q hq => nomatch hq) (fun _ k _ => ⟨k _ _ h1, k _ _ h2⟩) ?_
  case v1 => k_asm
  case v2 => k_asm
  case v3 => k_asm
  case v5 => k_asm
  clear NN
  intro v9 new9 h9 tk9 F9 N9 D9 P9
  obtain ⟨rfl, es9, hE9, rfl⟩ := P9
  simp only [List.append_nil] at N9
  clear D9
  (try dsimp only); (try k_fold)
  obtain ⟨T9, rfl⟩ := hE9
  k_steps
  rename News _ _ _ _ => NN
  first | replace NN := ordTake_news NN | replace NN := ordTake_news (ordTake_drop NN) | replace NN := ordTake_news (ordTake_drop (ordTake_drop NN)) | replace NN := ordTake_news (ordTake_drop (ordTake_drop (ordTake_drop NN))) | replace NN := ordTake_news (ordTake_drop (ordTake_drop (ordTake_drop (ordTake_drop NN)))) | replace NN := ordTake_news (ordTake_drop (ordTake_drop (ordTake_drop (ordTake_drop (ordTake_drop NN))))) | replace NN := ordTake_news (ordTake_drop (ordTake_drop (ordTake_drop (ordTake_drop (ordTake_drop (ordTake_drop NN))))))
  exact hret _ _ _ _ _ (by k_asm) NN ⟨rfl, _, ⟨_, rfl⟩, rfl⟩
theorem m_tk42 (w : World) (x d : Addr) (st st' : OS) (o dx : Addr) (a : Int) (k1 k2 k3 t1 t2 t3 : Tok) (led : List (Addr × Obj)) (hne : @Ne Nat x d) (C : Mut w 4 218 [.ref x, .ref o] led (SignG w o dx 42 a k1 k2 k3 t1 t2 t3) (fun r new => r = .none ∧ OrdLed w x d st' new)) (hL : OrdLed w x d st led) :
    Mut w 10 281 [.ref x, .ref o] led (SignG w o dx 42 a k1 k2 k3 t1 t2 t3) (fun r new => r = .none ∧ OrdLed w x d { st' with seen := st'.seen + 1, last := [42] } new) := by
  obtain ⟨es, ⟨T9, rfl⟩, rfl⟩ := hL
  (try dsimp only)
  refine Mut.enter (by k_is) (by k_is) (by exact rfl) (by exact locs rfl) (by decide) ?_ (by exact rfl) (by exact rfl) (by exact rfl) (by decide)
  intro mean mg mb dp un gd outer A₀ base g hp₁ gs₁ dr₁ tk₁ os₁ L' Q mF AF EF F' N' P' B' X' T' hdp hun hret
  obtain ⟨h1, h2⟩ := P'
  ktr_unf
  k_steps
  refine ⟨?_⟩
  rename News _ _ _ _ => NN
  first | replace NN := ordTake_news NN | replace NN := ordTake_news (ordTake_drop NN) | replace NN := ordTake_news (ordTake_drop (ordTake_drop NN)) | replace NN := ordTake_news (ordTake_drop (ordTake_drop (ordTake_drop NN))) | replace NN := ordTake_news (ordTake_drop (ordTake_drop (ordTake_drop (ordTake_drop NN)))) | replace NN := ordTake_news (ordTake_drop (ordTake_drop (ordTake_drop (ordTake_drop (ordTake_drop NN))))) | replace NN := ordTake_news (ordTake_drop (ordTake_drop (ordTake_drop (ordTake_drop (ordTake_drop (ordTake_drop NN))))))
  refine' Mut.use (tl := []) (C) ?v1 ?v2 ?v3 NN ?v5 rfl (by omega) (by omega) (fun p hp => hp) (fun p hp => nomatch hp) (fun p hp q hq => nomatch hq) (fun _ k _ => ⟨k _ _ h1, k _ _ h2⟩) ?_
  case v1 => k_asm
  case v2 => k_asm
  case v3 => k_asm
  case v5 => k_asm
  clear NN
  intro v9 new9 h9 tk9 F9 N9 D9 P9
  obtain ⟨rfl, es9, hE9, rfl⟩ := P9
  simp only [List.append_nil] at N9
  clear D9
  (try dsimp only); (try k_fold)
  obtain ⟨T9, rfl⟩ := hE9
  k_steps
  rename News _ _ _ _ => NN
  first | replace NN := ordTake_news NN | replace NN := ordTake_news (ordTake_drop NN) | replace NN := ordTake_news (ordTake_drop (ordTake_drop NN)) | replace NN := ordTake_news (ordTake_drop (ordTake_drop (ordTake_drop NN))) | replace NN := ordTake_news (ordTake_drop (ordTake_drop (ordTake_drop (ordTake_drop NN)))) | replace NN := ordTake_news (ordTake_drop (ordTake_drop (ordTake_drop (ordTake_drop (ordTake_drop NN))))) | replace NN := ordTake_news (ordTake_drop (ordTake_drop (ordTake_drop (ordTake_drop (ordTake_drop (ordTake_drop NN))))))
  exact hret _ _ _ _ _ (by k_asm) NN ⟨rfl, _, ⟨_, rfl⟩, rfl⟩
theorem m_tk46 (w : World) (x d : Addr) (st st' : OS) (o dx : Addr) (a : Int) (k1 k2 k3 t1 t2 t3 : Tok) (led : List (Addr × Obj)) (hne : @Ne Nat x d) (C : Mut w 4 225 [.ref x, .ref o] led (SignG w o dx 46 a k1 k2 k3 t1 t2 t3) (fun r new => r = .none ∧ OrdLed w x d st' new)) (hL : OrdLed w x d st led) :
    Mut w 10 281 [.ref x, .ref o] led (SignG w o dx 46 a k1 k2 k3 t1 t2 t3) (fun r new => r = .none ∧ OrdLed w x d { st' with seen := st'.seen + 1, last := [46] } new) := by
  obtain ⟨es, ⟨T9, rfl⟩, rfl⟩ := hL
  (try dsimp only)
  refine Mut.enter (by k_is) (by k_is) (by exact rfl) (by exact locs rfl) (by decide) ?_ (by exact rfl) (by exact rfl) (by exact rfl) (by decide)
  intro mean mg mb dp un gd outer A₀ base g hp₁ gs₁ dr₁ tk₁ os₁ L' Q mF AF EF F' N' P' B' X' T' hdp hun hret
  obtain ⟨h1, h2⟩ := P'
  ktr_unf
  k_steps
  refine ⟨?_⟩
  rename News _ _ _ _ => NN
  first | replace NN := ordTake_news NN | replace NN := ordTake_news (ordTake_drop NN) | replace NN := ordTake_news (ordTake_drop (ordTake_drop NN)) | replace NN := ordTake_news (ordTake_drop (ordTake_drop (ordTake_drop NN))) | replace NN := ordTake_news (ordTake_drop (ordTake_drop (ordTake_drop (ordTake_drop NN)))) | replace NN := ordTake_news (ordTake_drop (ordTake_drop (ordTake_drop (ordTake_drop (ordTake_drop NN))))) | replace NN := ordTake_news (ordTake_drop (ordTake_drop (ordTake_drop (ordTake_drop (ordTake_drop (ordTake_drop NN))))))
  refine' Mut.use (tl := []) (C) ?v1 ?v2 ?v3 NN ?v5 rfl (by omega) (by omega) (fun p hp => hp) (fun p hp => nomatch hp) (fun p hp q hq => nomatch hq) (fun _ k _ => ⟨k _ _ h1, k _ _ h2⟩) ?_
  case v1 => k_asm
  case v2 => k_asm
  case v3 => k_asm
  case v5 => k_asm
  clear NN
  intro v9 new9 h9 tk9 F9 N9 D9 P9
  obtain ⟨rfl, es9, hE9, rfl⟩ := P9
  simp only [List.append_nil] at N9
  clear D9
  (try dsimp only); (try k_fold)
  obtain ⟨T9, rfl⟩ := hE9
  k_steps
  rename News _ _ _ _ => NN
  first | replace NN := ordTake_news NN | replace NN := ordTake_news (ordTake_drop NN) | replace NN := ordTake_news (ordTake_drop (ordTake_drop NN)) | replace NN := ordTake_news (ordTake_drop (ordTake_drop (ordTake_drop NN))) | replace NN := ordTake_news (ordTake_drop (ordTake_drop (ordTake_drop (ordTake_drop NN)))) | replace NN := ordTake_news (ordTake_drop (ordTake_drop (ordTake_drop (ordTake_drop (ordTake_drop NN))))) | replace NN := ordTake_news (ordTake_drop (ordTake_drop (ordTake_drop (ordTake_drop (ordTake_drop (ordTake_drop NN))))))
  exact hret _ _ _ _ _ (by k_asm) NN ⟨rfl, _, ⟨_, rfl⟩, rfl⟩
theorem m_tk44 (w : World) (x d : Addr) (st st' : OS) (o dx : Addr) (a : Int) (k1 k2 k3 t1 t2 t3 : Tok) (led : List (Addr × Obj)) (hne : @Ne Nat x d) (C : Mut w 4 239 [.ref x, .ref o] led (SignG w o dx 44 a k1 k2 k3 t1 t2 t3) (fun r new => r = .none ∧ OrdLed w x d st' new)) (hL : OrdLed w x d st led) :
    Mut w 10 281 [.ref x, .ref o] led (SignG w o dx 44 a k1 k2 k3 t1 t2 t3) (fun r new => r = .none ∧ OrdLed w x d { st' with seen := st'.seen + 1, last := [44] } new) := by
  obtain ⟨es, ⟨T9, rfl⟩, rfl⟩ := hL
  (try dsimp only)
  refine Mut.enter (by k_is) (by k_is) (by exact rfl) (by exact locs rfl) (by decide) ?_ (by exact rfl) (by exact rfl) (by exact rfl) (by decide)
  intro mean mg mb dp un gd outer A₀ base g hp₁ gs₁ dr₁ tk₁ os₁ L' Q mF AF EF F' N' P' B' X' T' hdp hun hret
  obtain ⟨h1, h2⟩ := P'
  ktr_unf
  k_steps
  refine ⟨?_⟩
  rename News _ _ _ _ => NN
  first | replace NN := ordTake_news NN | replace NN := ordTake_news (ordTake_drop NN) | replace NN := ordTake_news (ordTake_drop (ordTake_drop NN)) | replace NN := ordTake_news (ordTake_drop (ordTake_drop (ordTake_drop NN))) | replace NN := ordTake_news (ordTake_drop (ordTake_drop (ordTake_drop (ordTake_drop NN)))) | replace NN := ordTake_news (ordTake_drop (ordTake_drop (ordTake_drop (ordTake_drop (ordTake_drop NN))))) | replace NN := ordTake_news (ordTake_drop (ordTake_drop (ordTake_drop (ordTake_drop (ordTake_drop (ordTake_drop NN))))))
  refine' Mut.use (tl := []) (C) ?v1 ?v2 ?v3 NN ?v5 rfl (by omega) (by omega) (fun p hp => hp) (fun p hp => nomatch hp) (fun p hp q hq => nomatch hq) (fun _ k _ => ⟨k _ _ h1, k _ _ h2⟩) ?_
  case v1 => k_asm
  case v2 => k_asm
  case v3 => k_asm
  case v5 => k_asm
  clear NN
  intro v9 new9 h9 tk9 F9 N9 D9 P9
  obtain ⟨rfl, es9, hE9, rfl⟩ := P9
  simp only [List.append_nil] at N9
  clear D9
  (try dsimp only); (try k_fold)
  obtain ⟨T9, rfl⟩ := hE9
  k_steps
  rename News _ _ _ _ => NN
  first | replace NN := ordTake_news NN | replace NN := ordTake_news (ordTake_drop NN) | replace NN := ordTake_news (ordTake_drop (ordTake_drop NN)) | replace NN := ordTake_news (ordTake_drop (ordTake_drop (ordTake_drop NN))) | replace NN := ordTake_news (ordTake_drop (ordTake_drop (ordTake_drop (ordTake_drop NN)))) | replace NN := ordTake_news (ordTake_drop (ordTake_drop (ordTake_drop (ordTake_drop (ordTake_drop NN))))) | replace NN := ordTake_news (ordTake_drop (ordTake_drop (ordTake_drop (ordTake_drop (ordTake_drop (ordTake_drop NN))))))
  exact hret _ _ _ _ _ (by k_asm) NN ⟨rfl, _, ⟨_, rfl⟩, rfl⟩
theorem m_tk43 (w : World) (x d : Addr) (st st' : OS) (o dx : Addr) (a : Int) (k1 k2 k3 t1 t2 t3 : Tok) (led : List (Addr × Obj)) (hne : @Ne Nat x d) (C : Mut w 7 260 [.ref x, .ref o] led (SignG w o dx 43 a k1 k2 k3 t1 t2 t3) (fun r new => r = .none ∧ OrdLed w x d st' new)) (hL : OrdLed w x d st led) :
    Mut w 10 281 [.ref x, .ref o] led (SignG w o dx 43 a k1 k2 k3 t1 t2 t3) (fun r new => r = .none ∧ OrdLed w x d { st' with seen := st'.seen + 1, last := [43] } new) := by
  obtain ⟨es, ⟨T9, rfl⟩, rfl⟩ := hL
  (try dsimp only)
  refine Mut.enter (by k_is) (by k_is) (by exact rfl) (by exact locs rfl) (by decide) ?_ (by exact rfl) (by exact rfl) (by exact rfl) (by decide)
  intro mean mg mb dp un gd outer A₀ base g hp₁ gs₁ dr₁ tk₁ os₁ L' Q mF AF EF F' N' P' B' X' T' hdp hun hret
  obtain ⟨h1, h2⟩ := P'
  ktr_unf
  k_steps
  refine ⟨?_⟩
  rename News _ _ _ _ => NN
  first | replace NN := ordTake_news NN | replace NN := ordTake_news (ordTake_drop NN) | replace NN := ordTake_news (ordTake_drop (ordTake_drop NN)) | replace NN := ordTake_news (ordTake_drop (ordTake_drop (ordTake_drop NN))) | replace NN := ordTake_news (ordTake_drop (ordTake_drop (ordTake_drop (ordTake_drop NN)))) | replace NN := ordTake_news (ordTake_drop (ordTake_drop (ordTake_drop (ordTake_drop (ordTake_drop NN))))) | replace NN := ordTake_news (ordTake_drop (ordTake_drop (ordTake_drop (ordTake_drop (ordTake_drop (ordTake_drop NN))))))
  refine' Mut.use (tl := []) (C) ?v1 ?v2 ?v3 NN ?v5 rfl (by omega) (by omega) (fun p hp => hp) (fun p hp => nomatch hp) (fun p hp q hq => nomatch hq) (fun _ k _ => ⟨k _ _ h1, k _ _ h2⟩) ?_
  case v1 => k_asm
  case v2 => k_asm
  case v3 => k_asm
  case v5 => k_asm
  clear NN
  intro v9 new9 h9 tk9 F9 N9 D9 P9
  obtain ⟨rfl, es9, hE9, rfl⟩ := P9
  simp only [List.append_nil] at N9
  clear D9
  (try dsimp only); (try k_fold)
  obtain ⟨T9, rfl⟩ := hE9
  k_steps
  rename News _ _ _ _ => NN
  first | replace NN := ordTake_news NN | replace NN := ordTake_news (ordTake_drop NN) | replace NN := ordTake_news (ordTake_drop (ordTake_drop NN)) | replace NN := ordTake_news (ordTake_drop (ordTake_drop (ordTake_drop NN))) | replace NN := ordTake_news (ordTake_drop (ordTake_drop (ordTake_drop (ordTake_drop NN)))) | replace NN := ordTake_news (ordTake_drop (ordTake_drop (ordTake_drop (ordTake_drop (ordTake_drop NN))))) | replace NN := ordTake_news (ordTake_drop (ordTake_drop (ordTake_drop (ordTake_drop (ordTake_drop (ordTake_drop NN))))))
  exact hret _ _ _ _ _ (by k_asm) NN ⟨rfl, _, ⟨_, rfl⟩, rfl⟩
theorem m_tk45 (w : World) (x d : Addr) (st st' : OS) (o dx : Addr) (a : Int) (k1 k2 k3 t1 t2 t3 : Tok) (led : List (Addr × Obj)) (hne : @Ne Nat x d) (C : Mut w 7 260 [.ref x, .ref o] led (SignG w o dx 45 a k1 k2 k3 t1 t2 t3) (fun r new => r = .none ∧ OrdLed w x d st' new)) (hL : OrdLed w x d st led) :
    Mut w 10 281 [.ref x, .ref o] led (SignG w o dx 45 a k1 k2 k3 t1 t2 t3) (fun r new => r = .none ∧ OrdLed w x d { st' with seen := st'.seen + 1, last := [45] } new) := by
  obtain ⟨es, ⟨T9, rfl⟩, rfl⟩ := hL
  (try dsimp only)
  refine Mut.enter (by k_is) (by k_is) (by exact rfl) (by exact locs rfl) (by decide) ?_ (by exact rfl) (by exact rfl) (by exact rfl) (by decide)
  intro mean mg mb dp un gd outer A₀ base g hp₁ gs₁ dr₁ tk₁ os₁ L' Q mF AF EF F' N' P' B' X' T' hdp hun hret
  obtain ⟨h1, h2⟩ := P'
  ktr_unf
  k_steps
  refine ⟨?_⟩
  rename News _ _ _ _ => NN
  first | replace NN := ordTake_news NN | replace NN := ordTake_news (ordTake_drop NN) | replace NN := ordTake_news (ordTake_drop (ordTake_drop NN)) | replace NN := ordTake_news (ordTake_drop (ordTake_drop (ordTake_drop NN))) | replace NN := ordTake_news (ordTake_drop (ordTake_drop (ordTake_drop (ordTake_drop NN)))) | replace NN := ordTake_news (ordTake_drop (ordTake_drop (ordTake_drop (ordTake_drop (ordTake_drop NN))))) | replace NN := ordTake_news (ordTake_drop (ordTake_drop (ordTake_drop (ordTake_drop (ordTake_drop (ordTake_drop NN))))))
  refine' Mut.use (tl := []) (C) ?v1 ?v2 ?v3 NN ?v5 rfl (by omega) (by omega) (fun p hp => hp) (fun p hp => nomatch hp) (fun p hp q hq => nomatch hq) (fun _ k _ => ⟨k _ _ h1, k _ _ h2⟩) ?_
  case v1 => k_asm
  case v2 => k_asm
  case v3 => k_asm
  case v5 => k_asm
  clear NN
  intro v9 new9 h9 tk9 F9 N9 D9 P9
  obtain ⟨rfl, es9, hE9, rfl⟩ := P9
  simp only [List.append_nil] at N9
  clear D9
  (try dsimp only); (try k_fold)
  obtain ⟨T9, rfl⟩ := hE9
  k_steps
  rename News _ _ _ _ => NN
  first | replace NN := ordTake_news NN | replace NN := ordTake_news (ordTake_drop NN) | replace NN := ordTake_news (ordTake_drop (ordTake_drop NN)) | replace NN := ordTake_news (ordTake_drop (ordTake_drop (ordTake_drop NN))) | replace NN := ordTake_news (ordTake_drop (ordTake_drop (ordTake_drop (ordTake_drop NN)))) | replace NN := ordTake_news (ordTake_drop (ordTake_drop (ordTake_drop (ordTake_drop (ordTake_drop NN))))) | replace NN := ordTake_news (ordTake_drop (ordTake_drop (ordTake_drop (ordTake_drop (ordTake_drop (ordTake_drop NN))))))
  exact hret _ _ _ _ _ (by k_asm) NN ⟨rfl, _, ⟨_, rfl⟩, rfl⟩
theorem m_tk36 (w : World) (x d : Addr) (st st' : OS) (o dx : Addr) (a : Int) (k1 k2 k3 t1 t2 t3 : Tok) (led : List (Addr × Obj)) (hne : @Ne Nat x d) (C : Mut w 7 267 [.ref x, .ref o] led (SignG w o dx 36 a k1 k2 k3 t1 t2 t3) (fun r new => r = .none ∧ OrdLed w x d st' new)) (hL : OrdLed w x d st led) :
    Mut w 10 281 [.ref x, .ref o] led (SignG w o dx 36 a k1 k2 k3 t1 t2 t3) (fun r new => r = .none ∧ OrdLed w x d { st' with seen := st'.seen + 1, last := [36] } new) := by
  obtain ⟨es, ⟨T9, rfl⟩, rfl⟩ := hL
  (try dsimp only)
  refine Mut.enter (by k_is) (by k_is) (by exact rfl) (by exact locs rfl) (by decide) ?_ (by exact rfl) (by exact rfl) (by exact rfl) (by decide)
  intro mean mg mb dp un gd outer A₀ base g hp₁ gs₁ dr₁ tk₁ os₁ L' Q mF AF EF F' N' P' B' X' T' hdp hun hret
  obtain ⟨h1, h2⟩ := P'
  ktr_unf
  k_steps
  refine ⟨?_⟩
  rename News _ _ _ _ => NN
  first | replace NN := ordTake_news NN | replace NN := ordTake_news (ordTake_drop NN) | replace NN := ordTake_news (ordTake_drop (ordTake_drop NN)) | replace NN := ordTake_news (ordTake_drop (ordTake_drop (ordTake_drop NN))) | replace NN := ordTake_news (ordTake_drop (ordTake_drop (ordTake_drop (ordTake_drop NN)))) | replace NN := ordTake_news (ordTake_drop (ordTake_drop (ordTake_drop (ordTake_drop (ordTake_drop NN))))) | replace NN := ordTake_news (ordTake_drop (ordTake_drop (ordTake_drop (ordTake_drop (ordTake_drop (ordTake_drop NN))))))
  refine' Mut.use (tl := []) (C) ?v1 ?v2 ?v3 NN ?v5 rfl (by omega) (by omega) (fun p hp => hp) (fun p hp => nomatch hp) (fun p hp q hq => nomatch hq) (fun _ k _ => ⟨k _ _ h1, k _ _ h2⟩) ?_
  case v1 => k_asm
  case v2 => k_asm
  case v3 => k_asm
  case v5 => k_asm
  clear NN
  intro v9 new9 h9 tk9 F9 N9 D9 P9
  obtain ⟨rfl, es9, hE9, rfl⟩ := P9
  simp only [List.append_nil] at N9
  clear D9
  (try dsimp only); (try k_fold)
  obtain ⟨T9, rfl⟩ := hE9
  k_steps
  rename News _ _ _ _ => NN
  first | replace NN := ordTake_news NN | replace NN := ordTake_news (ordTake_drop NN) | replace NN := ordTake_news (ordTake_drop (ordTake_drop NN)) | replace NN := ordTake_news (ordTake_drop (ordTake_drop (ordTake_drop NN))) | replace NN := ordTake_news (ordTake_drop (ordTake_drop (ordTake_drop (ordTake_drop NN)))) | replace NN := ordTake_news (ordTake_drop (ordTake_drop (ordTake_drop (ordTake_drop (ordTake_drop NN))))) | replace NN := ordTake_news (ordTake_drop (ordTake_drop (ordTake_drop (ordTake_drop (ordTake_drop (ordTake_drop NN))))))
  exact hret _ _ _ _ _ (by k_asm) NN ⟨rfl, _, ⟨_, rfl⟩, rfl⟩
theorem m_take (w : World) (x d : Addr) (st st' : OS) (c : Nat) (o dx : Addr) (a : Int) (k1 k2 k3 t1 t2 t3 : Tok) (led : List (Addr × Obj)) (hne : @Ne Nat x d) (hL : OrdLed w x d st led) (hst : OStep st c st') :
    Mut w 10 281 [.ref x, .ref o] led (fun g => g.get? o = some (instObj 141 dx) ∧ g.get? dx = some (signD w c a k1 k2 k3 t1 t2 t3)) (fun r new => r = .none ∧ OrdLed w x d st' new) := by
  cases hst
  case nine => exact m_tk57 w x d _ _ _ _ _ _ _ _ _ _ _ _ hne (m_nine0 w x d _ _ _ _ _ _ _ _ _ _ _ _ _ _ _ _ _ _ _ _ hne hL) hL
  case nineP => exact m_tk57 w x d _ _ _ _ _ _ _ _ _ _ _ _ hne (m_nine1 w x d _ _ _ _ _ _ _ _ _ _ _ _ _ _ _ _ _ _ _ _ hne hL) hL
  case z0 => exact m_tk90 w x d _ _ _ _ _ _ _ _ _ _ _ _ hne (m_z0 w x d _ _ _ _ _ _ _ _ _ _ _ _ _ _ _ _ _ hne hL) hL
  case z1 => exact m_tk90 w x d _ _ _ _ _ _ _ _ _ _ _ _ hne (m_z1 w x d _ _ _ _ _ _ _ _ _ _ _ _ _ _ _ _ _ hne hL) hL
  case s0 => exact m_tk42 w x d _ _ _ _ _ _ _ _ _ _ _ _ hne (m_s0 w x d _ _ _ _ _ _ _ _ _ _ _ _ _ _ _ _ _ hne hL) hL
  case s1 => exact m_tk42 w x d _ _ _ _ _ _ _ _ _ _ _ _ hne (m_s1 w x d _ _ _ _ _ _ _ _ _ _ _ _ _ _ _ _ _ hne hL) hL
  case pt => exact m_tk46 w x d _ _ _ _ _ _ _ _ _ _ _ _ hne (m_point w x d _ _ _ _ _ _ _ _ _ _ _ _ _ _ _ _ _ _ _ _ hne hL) hL
  case comma => exact m_tk44 w x d _ _ _ _ _ _ _ _ _ _ _ _ hne (m_ins w x d _ _ _ _ _ _ _ _ _ _ _ _ _ _ _ _ _ _ _ _ _ _ hne hL) hL
  case p0 => exact m_tk43 w x d _ _ _ _ _ _ _ _ _ _ _ _ hne (m_p0 w x d _ _ _ _ _ _ _ _ _ _ _ _ _ _ _ _ _ _ _ hne hL) hL
  case p1 => exact m_tk43 w x d _ _ _ _ _ _ _ _ _ _ _ _ hne (m_p1 w x d _ _ _ _ _ _ (by assumption) _ _ _ _ _ _ _ _ _ _ hne hL) hL
  case m0 => exact m_tk45 w x d _ _ _ _ _ _ _ _ _ _ _ _ hne (m_m0 w x d _ _ _ _ _ _ _ _ _ _ _ _ _ _ _ _ _ _ _ hne hL) hL
  case m1 => exact m_tk45 w x d _ _ _ _ _ _ _ _ _ _ _ _ hne (m_m1 w x d _ _ _ _ _ _ (by assumption) _ _ _ _ _ _ _ _ _ _ hne hL) hL
  case d0 => exact m_tk36 w x d _ _ _ _ _ _ _ _ _ _ _ _ hne (m_d0 w x d _ _ _ _ _ _ _ _ _ _ _ _ _ _ _ _ _ _ hne hL) hL
  case d1 => exact m_tk36 w x d _ _ _ _ _ _ _ _ _ _ _ _ hne (m_d1 w x d _ _ _ _ _ _ _ _ _ _ _ _ _ _ _ _ _ hne hL) hL
end
end C_s5b_part
section C_s5n_part
set_option maxRecDepth 100000
set_option maxHeartbeats 300000
set_option rowWalk.seconds 0
theorem init_C_s5n : (PySem.Challenge.rw_pb0263_01.Holds → True) ∧ (Mine.hd.heap_1 = Mine.hd.heap_1) := by
  k_fill; exact ⟨fun _ => trivial, rfl⟩
structure Go0 (n : Nat) : Prop where
  out : True
section
variable {M : Model} {A : Around} {E : Value → Shared → Prop} {s : Shared} {h₀ : Heap} {L : Addr} {m : Str → Option Value} {news : List (Addr × Obj)}
/-- a term's value known by what holds of it -/
theorem mono_val0 {t : Sem Value} {Q : Value → Shared → Prop} (G : Value → Prop) (_F : Fr h₀ L s.heap m) (_N : News h₀ L s.heap news) (a : wpAny M A t (fun v s' => Held (G v ∧ ∃ k h4, s' = { s with heap := h4, toks := k } ∧ Fr h₀ L h4 m ∧ News h₀ L h4 news)) E s)
    (b : ∀ v k h4, G v → Fr h₀ L h4 m → News h₀ L h4 news → Q v { s with heap := h4, toks := k }) : wpAny M A t Q E s :=
  wpAny_mono a (fun v s' ⟨g, k, h4, e, F4, N4⟩ => by subst e; exact b v k h4 g F4 N4) fun _ _ e => e
end
theorem newsGet {h₀ h : Heap} {L a : Addr} {o : Obj} {all : List (Addr × Obj)} (N : News h₀ L h all) (hm : (a, o) ∈ all) : h.get? a = some o := (N _ hm).1
theorem SignAt.keeps {w : World} {h h' : Heap} (k : ∀ b o, h.get? b = some o → h'.get? b = some o) {v : Value} {c : Nat} : SignAt w h v c → SignAt w h' v c := by
  rintro ⟨x, dx, a, k1, k2, k3, t1, t2, t3, e, h1, h2⟩
  exact ⟨x, dx, a, k1, k2, k3, t1, t2, t3, e, k _ _ h1, k _ _ h2⟩
theorem SignsAt.keeps {w : World} {h h' : Heap} (k : ∀ b o, h.get? b = some o → h'.get? b = some o) : ∀ {vs : List Value} {cs : List Nat}, SignsAt w h vs cs → SignsAt w h' vs cs := by
  intro vs
  induction vs with
  | nil => intro cs h; cases cs with
    | nil => trivial
    | cons c cs => exact h
  | cons v vs ih => intro cs h; cases cs with
    | nil => exact h
    | cons c cs => exact ⟨h.1.keeps k, ih h.2⟩
section
local macro_rules | `(tactic| walk_at "UnrPostW") => `(tactic| refine Held.out ?_)
local macro_rules | `(tactic| walk_at "exec For Name Name cons nil") => `(tactic| (k_here; (rename Fr _ _ _ _ => lF'); (with_unfolding_all refine' For_turns lF' ?_; k_whole)))
local macro_rules | `(tactic| walk_at "pyIter ref") => `(tactic| (k_here; (with_reducible show wpAny _ _ (pyIter (Value.ref _)) (fun it s₂ => TurnsAt _ _ _ _ _ _ _ _ _ it s₂) _ _); refine Held.out ?_))
local macro_rules | `(tactic| walk_at "call ref") => `(tactic| (k_here; (fail_if_success with_reducible show wpAny _ _ (call (Value.ref 298) _) _ _ _); (fail_if_success with_reducible show wpAny _ _ (call (Value.ref 113) _) _ _ _); refine Held.out ?_))
local macro_rules | `(tactic| walk_at "compareOp Eq ref ref") => `(tactic| refine Held.out ?_)
local macro_rules | `(tactic| walk_at "eval ListComp") => `(tactic| (k_here; k_dflt (refine comp_eval (by k_asm) (by with_unfolding_all rfl) (by decide) (by rfl) (by decide) ?_)))
local macro_rules | `(tactic| walk_at "eval IfExp") => `(tactic| ((fail_if_success (rename Go0 2 => x)); refine Held.out ?_))
theorem perm_order {h₀ h : Heap} {L D ls o d : Addr} {oD ol io od : Obj} {objs : List (Addr × Obj)} (N : News h₀ L h ((D, oD) :: (ls, ol) :: (objs ++ [(o, io), (d, od)]))) : News h₀ L h ((o, io) :: (d, od) :: (ls, ol) :: objs) := fun p hp => N p (by
  simp only [List.mem_cons, List.mem_append, List.not_mem_nil, or_false] at hp ⊢
  rcases hp with h | h | h | h
  · exact .inr (.inr (.inr (.inl h)))
  · exact .inr (.inr (.inr (.inr h)))
  · exact .inr (.inl h)
  · exact .inr (.inr (.inl h)))
theorem off_split {ls o d : Addr} {ol io od : Obj} {objs : List (Addr × Obj)} (D : ∀ p ∈ (ls, ol) :: objs, LCg.Off1 p.1 [(o, io), (d, od)]) : (@Ne Nat o ls ∧ @Ne Nat d ls) ∧ (∀ p ∈ objs, p.1 ≠ o) ∧ (∀ p ∈ objs, p.1 ≠ d) :=
  ⟨⟨(D _ (.head _)).1, (D _ (.head _)).2.1⟩, fun p hp => Ne.symm (D p (.tail _ hp)).1, fun p hp => Ne.symm (D p (.tail _ hp)).2.1⟩
theorem take_perm {h₀ h : Heap} {L x d I : Addr} {ox od oI : Obj} {r : List (Addr × Obj)} (N : News h₀ L h ((x, ox) :: (d, od) :: (I, oI) :: r)) : News h₀ L h ((I, oI) :: (x, ox) :: (d, od) :: r) := fun p hp => N p (by
  simp only [List.mem_cons] at hp ⊢
  rcases hp with h | h | h | h
  · exact .inr (.inr (.inl h))
  · exact .inl h
  · exact .inr (.inl h)
  · exact .inr (.inr (.inr h)))
theorem take_off {I x d l9 : Addr} {ox od oI ol : Obj} {objs : List (Addr × Obj)} (h1 : @LT.lt Nat _ x I) (h2 : @LT.lt Nat _ d I) (hol : @Ne Nat x l9) (hdl : @Ne Nat d l9) (hoo : ∀ p ∈ objs, p.1 ≠ x) (hod : ∀ p ∈ objs, p.1 ≠ d) :
    ∀ p ∈ [(x, ox), (d, od)], ∀ q ∈ (I, oI) :: (l9, ol) :: objs, @Ne Nat p.1 q.1 := 
  List.forall_mem_cons.mpr ⟨List.forall_mem_cons.mpr ⟨Nat.ne_of_lt h1, List.forall_mem_cons.mpr ⟨hol, fun q hq => Ne.symm (hoo q hq)⟩⟩, List.forall_mem_cons.mpr ⟨List.forall_mem_cons.mpr ⟨Nat.ne_of_lt h2, List.forall_mem_cons.mpr ⟨hdl, fun q hq => Ne.symm (hod q hq)⟩⟩, fun _ h => nomatch h⟩⟩
theorem neAll {I : Addr} : ∀ {its : List (Addr × Obj)}, AllLt I its → ∀ p ∈ its, p.1 ≠ I
  | [], _, _, h => nomatch h
  | _ :: _, h, p, hp => by
    rcases List.mem_cons.mp hp with e | e
    · rw [e]; exact Nat.ne_of_lt h.1
    · exact neAll h.2 p e
theorem ord_end {w : World} {h₀ : Heap} {L I x d l9 : Addr} {o ol : Obj} {objs : List (Addr × Obj)} {es : List DictEntry} {st sf : OS} {cs : List Nat} {rest : (Str → Option Value) → List (Addr × Obj) → Prop} {s₁ : Shared} {h' : Heap} {tk : Nat} {m' : Str → Option Value}
    (F : Fr h₀ L h' m') (N : News h₀ L h' ((I, o) :: (x, instObj 298 d) :: (d, dictOf es 16) :: (l9, ol) :: objs)) (hI : @LT.lt Nat _ x I ∧ @LT.lt Nat _ d I ∧ @LT.lt Nat _ l9 I ∧ AllLt I objs) (hO : cs.foldlM OS.take st = some sf) (hE : OrdRel w st es)
    (r : OrdRel w st es → rest m' ((x, instObj 298 d) :: (d, dictOf es 16) :: (l9, ol) :: objs)) : UnrEndW h₀ L s₁ [(I, o)] rest { s₁ with heap := h', toks := tk } :=
  unr_end1 F N _ (.head _) (fun p hp => .tail _ hp) (List.forall_mem_cons.mpr ⟨neN (by omega), List.forall_mem_cons.mpr ⟨neN (by omega), List.forall_mem_cons.mpr ⟨neN (by omega), neAll hI.2.2.2⟩⟩⟩) (r hE)
theorem ord_news {h₀ : Heap} {L I x d l9 : Addr} {o ol : Obj} {objs : List (Addr × Obj)} {es : List DictEntry} {h' : Heap}
    (N : News h₀ L h' ((I, o) :: (x, instObj 298 d) :: (d, dictOf es 16) :: (l9, ol) :: objs)) (_ : @LT.lt Nat _ x I ∧ @LT.lt Nat _ d I ∧ @LT.lt Nat _ l9 I ∧ AllLt I objs) : News h₀ L h' ((I, o) :: (x, instObj 298 d) :: (d, dictOf es 16) :: (l9, ol) :: objs) := N
theorem ord_drop {h₀ : Heap} {L : Addr} {p : Addr × Obj} {r : List (Addr × Obj)} {h' : Heap} (N : News h₀ L h' (p :: r)) : News h₀ L h' r := fun q hq => N q (.tail _ hq)
theorem symL {h₀ h : Heap} {L l : Addr} {all : List (Addr × Obj)} {its : Array Value} {n : Nat} (N : News h₀ L h all) (hm : (l, listOf its n) ∈ all) : h.IsList l its.toList.toArray := by
  have e : its.toList.toArray = its := by simp
  exact e.symm ▸ PySem.IsL.isList (n := n) (N _ hm).1
theorem symE {h₀ h : Heap} {L l : Addr} {all : List (Addr × Obj)} {ys : List Value} (N : News h₀ L h all) (hm : (l, LCg.lst ys) ∈ all) : h.IsList l ys.toArray := ⟨_, (N _ hm).1, rfl, _, rfl⟩
theorem symE0 {h₀ h : Heap} {L l : Addr} {all : List (Addr × Obj)} {n : Nat} (N : News h₀ L h all) (hm : (l, listOf #[] n) ∈ all) : h.IsList l #[] := ⟨_, (N _ hm).1, rfl, _, rfl⟩
theorem symL2 {h₀ h : Heap} {L l : Addr} {o : Obj} {all : List (Addr × Obj)} (N : News h₀ L h all) (hm : (l, o) ∈ all) : l ≠ L := (N _ hm).2.1
theorem symPairs {h₀ h : Heap} {L : Addr} {all objs : List (Addr × Obj)} {vs : List Value} {ps : List (Nat × Nat)} (N : News h₀ L h all) (S : SymsIn objs vs ps) (hm : ∀ p ∈ objs, p ∈ all) :
    ∀ (i : Nat) (v : Value), vs[i]? = some v → ∃ T v₁ v₂, v = .ref T ∧ IsTup h T #[v₁, v₂] ∧ T ≠ L ∧ ∃ p t1 t2, ps[i]? = some p ∧ v₁ = .str (St [p.1]) t1 ∧ v₂ = .int (p.2 : Int) t2 := by
  intro i v hi
  have hi' : i < ps.length := by rw [← S.1]; exact (List.getElem?_eq_some_iff.mp hi).1
  obtain ⟨T, t1, t2, e1, e2⟩ := S.2 i v ps[i] hi (List.getElem?_eq_getElem hi')
  exact ⟨T, _, _, e1, ⟨_, (N _ (hm _ e2)).1, rfl, _, rfl⟩, (N _ (hm _ e2)).2.1, _, t1, t2, List.getElem?_eq_getElem hi', rfl, rfl⟩
theorem symsAt_of {h₀ h : Heap} {L l : Addr} {all objs : List (Addr × Obj)} {its : Array Value} {n : Nat} {ps : List (Nat × Nat)} (N : News h₀ L h all) (S : SymsIn objs its.toList ps) (hm : ∀ p ∈ (l, listOf its n) :: objs, p ∈ all) : SymsAt h l ps := by
  have e : its.toList.toArray = its := by simp
  refine ⟨its.toList, e.symm ▸ PySem.IsL.isList (n := n) (N _ (hm _ (.head _))).1, S.1, fun i v p h1 h2 => ?_⟩
  obtain ⟨T, t1, t2, e1, e2⟩ := S.2 i v p h1 h2
  exact ⟨T, t1, t2, e1, ⟨_, (N _ (hm _ (.tail _ e2))).1, rfl, _, rfl⟩⟩
/-- a Picture's dict -/
noncomputable abbrev picD (w : World) (tx : List Nat) (l : Addr) (cat : Str) (dg sc sz : Int) (sg : Bool) (k0 k1 k2 k3 k4 k5 k6 t0 t2 t3 t4 t6 : Tok) : Obj :=
  dictOf [⟨PyData.keyHash w.params (Str.ofString "text"), .str (Str.ofString "text") k0, .str (St tx) t0⟩,
    ⟨PyData.keyHash w.params (Str.ofString "symbols"), .str (Str.ofString "symbols") k1, .ref l⟩,
    ⟨PyData.keyHash w.params (Str.ofString "category"), .str (Str.ofString "category") k2, .str cat t2⟩,
    ⟨PyData.keyHash w.params (Str.ofString "digits"), .str (Str.ofString "digits") k3, .int dg t3⟩,
    ⟨PyData.keyHash w.params (Str.ofString "scale"), .str (Str.ofString "scale") k4, .int sc t4⟩,
    ⟨PyData.keyHash w.params (Str.ofString "is_signed"), .str (Str.ofString "is_signed") k5, .bool sg⟩,
    ⟨PyData.keyHash w.params (Str.ofString "size"), .str (Str.ofString "size") k6, .int sz t6⟩] 7
inductive PicIn (w : World) (objs : List (Addr × Obj)) (v : Value) (tx : List Nat) (dg sc sz : Int) : Prop
  | mk (P D l : Addr) (its : Array Value) (n : Nat) (cat : Str) (sg : Bool) (k0 k1 k2 k3 k4 k5 k6 t0 t2 t3 t4 t6 : Tok) (e : v = .ref P) (h1 : (P, instObj 113 D) ∈ objs) (h2 : (D, picD w tx l cat dg sc sz sg k0 k1 k2 k3 k4 k5 k6 t0 t2 t3 t4 t6) ∈ objs) (h3 : (l, listOf its n) ∈ objs) (h4 : SymsIn objs its.toList (tx.foldl rlePush []))
theorem SymsIn.mono {o o' : List (Addr × Obj)} (k : ∀ p ∈ o, p ∈ o') {vs : List Value} {ps : List (Nat × Nat)} (h : SymsIn o vs ps) : SymsIn o' vs ps := ⟨h.1, fun i v p a b => (h.2 i v p a b).mono k⟩
theorem PicIn.mono {w : World} {o o' : List (Addr × Obj)} (k : ∀ p ∈ o, p ∈ o') {v : Value} {tx : List Nat} {dg sc sz : Int} (h : PicIn w o v tx dg sc sz) : PicIn w o' v tx dg sc sz := by
  obtain ⟨P, D, l, its, n, cat, sg, k0, k1, k2, k3, k4, k5, k6, t0, t2, t3, t4, t6, e, h1, h2, h3, h4⟩ := h
  exact ⟨P, D, l, its, n, cat, sg, k0, k1, k2, k3, k4, k5, k6, t0, t2, t3, t4, t6, e, k _ h1, k _ h2, k _ h3, h4.mono k⟩
set_option maxHeartbeats 20000000 in
theorem c_number (w : World) (h : Heap) (tx : List Nat) (l : Addr) (vs : List Value) (t1 : Tok) (ht : tx.length ≤ 30) (hl : h.IsList l vs.toArray) (hS : SignsAt w h vs tx) (ha : ∀ x ∈ tx, x ∈ AL) (sf : OS) (hO : tx.foldlM OS.take {} = some sf)
    (hd1 : 0 < sf.nines + sf.zeros + sf.floats) (hd2 : sf.nines + sf.zeros + sf.floats ≤ 18) (cl : Nat) (hla : sf.last = [cl]) (hlc : cl ≠ 44 ∧ cl ≠ 46) (hp1 : (tx.foldl rlePush []).length ≤ 30) (hp2 : ∀ p ∈ tx.foldl rlePush [], p.1 ∈ AL ∧ p.2 ≤ 30) (hp3 : ((tx.foldl rlePush []).map fun p => (p.2 : Int)).sum = (tx.length : Int)) :
    Pure w 12 307 [.str (St tx) t1, .ref l] h (fun v new => PicIn w new v tx ((sf.nines : Int) + sf.zeros + sf.floats) sf.behind tx.length) := by
  refine Pure.enter (by k_is) (by k_is) (by exact rfl) (by exact locs rfl) (by decide) ?_ (by exact rfl) (by exact rfl) (by exact rfl) (by decide)
  intro mean mg mb dp un gd outer A₀ base hp₁ gs₁ dr₁ tk₁ os₁ L' Q mF AF EF F' N' B' X' T' hdp hun hret
  ktr_unf
  k_steps
  refine ⟨?_⟩
  (refine' Pure.use (c_symbols_of _ _ _ _ _ ?p1 ?p2 ?p3) ?k1 ?k2 ?k3 ?k4 ?k5 ?kK ?kd ?ku ?_; (case p1 => assumption); (case p2 => exact isList_stays (fun b o e => Fr.keep (by k_asm) b o e) (by assumption)); (case p3 => exact SignsAt.keeps (fun b o e => Fr.keep (by k_asm) b o e) (by assumption)); (case k1 => k_asm); (case k2 => k_asm); (case k3 => k_asm); (case k4 => k_asm); (case k5 => k_asm); (case kK => exact rfl); (case kd => omega); (case ku => omega); intro v9 new9 h9 tk9 F9 N9 D9 P9; obtain ⟨l9, its9, n9, objs9, e9, q9, S9⟩ := P9; subst e9 q9; simp only [List.cons_append] at N9; (try dsimp only); (try k_fold))
  k_steps
  refine ⟨?_⟩
  rename News _ _ _ ((_, _) :: (_, _) :: (_ ++ _)) => NN
  have N1 := perm_order NN
  clear NN
  rename (∀ p ∈ (_, _) :: _, LCg.Off1 _ [(_, _), (_, _)]) => DD
  obtain ⟨⟨hol, hdl⟩, hoo, hod⟩ := off_split DD
  clear DD
  rename SymsIn _ _ _ => S9
  rename Array Value => its9
  refine base_turns rfl (by k_asm) N1 hl ?_
  intro I hI
  replace hI := allLt_of hI
  simp only [AllLt] at hI
  refine' rest_loopB (β := Addr × Addr × List (Addr × Obj)) (σ := List DictEntry × OS) (_, _, _ :: _) (fun b c => []) (fun b c => (b.1, instObj 298 b.2.1) :: (b.2.1, dictOf c.1 16) :: b.2.2) ["one"]
    (fun b xs c => ∃ rest cs, xs = rest.map Itm.val ∧ SignsAt w h rest cs ∧ (∀ x ∈ cs, x ∈ AL) ∧ OrdRel w c.2 c.1 ∧ cs.foldlM OS.take c.2 = some sf ∧ c.2.ok) (_, {}) ?hm rfl ?hR ?nil ?cons
  case hm => intro p hp; cases hp
  case hR => exact ⟨vs, tx, rfl, hS, ha, ordRel_mk, hO, .inl rfl, .inl rfl⟩
  case nil =>
    rintro ⟨es, st⟩ u h2 tk ⟨rest, cs, hxs, hS, hac, hE, hO, hok⟩ F N
    cases rest with
    | cons y ys => cases hxs
    | nil =>
    cases cs with
    | cons c cs => exact hS.elim
    | nil =>
    injection hO with e
    dsimp only at e
    subst e
    obtain ⟨TT, e0⟩ := hE
    dsimp only at e0
    subst e0
    dsimp only [kstB] at *
    have hpl : (tx.foldl rlePush []).length = its9.size := by
      have := S9.1; rw [Array.length_toList] at this; exact this.symm
    k_steps
    refine ⟨?_⟩
    (refine' Pure.use (c_whole _ _ _ _ _ _ ?h1 ?h2 ?h3 ?h4 ?h5 _ ?h6 ?h7) ?k1 ?k2 ?k3 ?k4 ?k5 ?kK ?kd ?ku ?_; (case h4 => assumption); (case h5 => assumption); (case h6 => assumption); (case h7 => assumption); (case h1 => exact newsGet (by k_asm) (by k_mem)); (case h2 => exact newsGet (by k_asm) (by k_mem)); (case h3 => exact ⟨_, rfl⟩); (case k1 => k_asm); (case k2 => k_asm); (case k3 => k_asm); (case k4 => k_asm); (case k5 => k_asm); (case kK => exact rfl); (case kd => omega); (case ku => omega); intro v9 new9 h9 tk9 F9 N9 D9 P9; obtain ⟨q9, e9⟩ := P9; subst e9 q9; simp only [List.nil_append] at N9; (try dsimp only); (try k_fold))
    k_steps
    · refine ⟨?_⟩
      refine' Pure.use (c_size _ _ (tx.foldl rlePush []) _ hp1 hp2 ?p3) ?k1 ?k2 ?k3 ?k4 ?k5 ?kK ?kd ?ku ?_
      case p3 => exact symsAt_of (by k_asm) S9 (fun p hp => .tail _ (.tail _ hp))
      (case k1 => k_asm); (case k2 => k_asm); (case k3 => k_asm); (case k4 => k_asm); (case k5 => k_asm); (case kK => exact rfl); (case kd => omega); (case ku => omega); intro v9 new9 h9 tk9 F9 N9 D9 P9; obtain ⟨q9, t9, e9⟩ := P9; subst e9 q9; simp only [List.nil_append] at N9; (try dsimp only); (try k_fold)
      k_steps
      refine comp_pairs (vs := its9.toList) (fun i v1 v2 => ∃ (p : Nat × Nat) (t1 t2 : Tok), (tx.foldl rlePush [])[i]? = some p ∧ v1 = .str (St [p.1]) t1 ∧ v2 = .int (p.2 : Int) t2) (fun i ys => True) rfl rfl rfl rfl (by decide) (by k_asm) (by k_asm) ?l1 ?l2 ?l3 ?l4 trivial ?l5 ?l6
      case l1 => exact symL (by k_asm) (by k_mem)
      case l2 => exact symL2 (by k_asm) (by k_mem)
      case l3 => first | exact symPairs (by k_asm) S9 (fun p hp => .tail _ (.tail _ (.tail _ hp))) | exact symPairs (by k_asm) S9 (fun p hp => .tail _ (.tail _ (.tail _ (.tail _ hp))))
      case l4 => rw [Array.length_toList, ← hpl]; omega
      case l5 =>
        rintro s₂ i ⟨hh, rfl⟩ hi ys own C oC D m₂ h2 tk E' hyl hY hoC ⟨v1, v2, ⟨p, t1, t2, hpi, rfl, rfl⟩, ha, hb⟩ F2 N2 offD hDC
        refine wpAny_tests_one ?_
        k_steps
        all_goals exact CEnd.intro (by k_asm) (by k_asm) (fun p hp => by first | exact hp | exact .tail _ hp | exact .tail _ (.tail _ hp)) trivial
      case l6 =>
        intro D h' tk ys F' N' oD hY
        k_steps
        refine ⟨?_⟩
        refine eq_nil (items := ys.toArray) (symE (by k_asm) (by k_mem)) (symE0 (by k_asm) (by k_mem)) (by k_units) ?_
        generalize decide (ys.toArray.size = 0) = bp
        k_steps
        refine ⟨?_⟩
        rename News _ _ _ _ => NV
        rename Fr h L' _ _ => FV
        refine mono_val0 (fun v => ∃ (cat : Str) (t : Tok), v = .str cat t) FV NV ?vA ?vB
        case vA =>
          have go2 : Go0 2 := ⟨trivial⟩
          k_steps
          all_goals exact ⟨⟨_, _, rfl⟩, _, _, rfl, by k_asm, by k_asm⟩
        case vB =>
          clear NV FV
          rintro v k8 h8 ⟨cat8, tk8, rfl⟩ F8 N8
          (try show wpAny _ _ _ _ _ _)
          k_steps
          refine ⟨?_⟩
          (refine' Pure.use (c_digits _ _ _ _ _ _ ?h1 ?h2 ?h3 ?h4) ?k1 ?k2 ?k3 ?k4 ?k5 ?kK ?kd ?ku ?_; (case h4 => assumption); (case h1 => exact newsGet (by k_asm) (by k_mem)); (case h2 => exact newsGet (by k_asm) (by k_mem)); (case h3 => exact ⟨_, rfl⟩); (case k1 => k_asm); (case k2 => k_asm); (case k3 => k_asm); (case k4 => k_asm); (case k5 => k_asm); (case kK => exact rfl); (case kd => omega); (case ku => omega); intro v9 new9 h9 tk9 F9 N9 D9 P9; obtain ⟨q9, t9, e9⟩ := P9; subst e9 q9; simp only [List.nil_append] at N9; (try dsimp only); (try k_fold))
          k_steps
          refine ⟨?_⟩
          (refine' Pure.use (c_scale _ _ _ _ _ _ ?h1 ?h2 ?h3 ?h4) ?k1 ?k2 ?k3 ?k4 ?k5 ?kK ?kd ?ku ?_; (case h4 => assumption); (case h1 => exact newsGet (by k_asm) (by k_mem)); (case h2 => exact newsGet (by k_asm) (by k_mem)); (case h3 => exact ⟨_, rfl⟩); (case k1 => k_asm); (case k2 => k_asm); (case k3 => k_asm); (case k4 => k_asm); (case k5 => k_asm); (case kK => exact rfl); (case kd => omega); (case ku => omega); intro v9 new9 h9 tk9 F9 N9 D9 P9; obtain ⟨q9, t9, e9⟩ := P9; subst e9 q9; simp only [List.nil_append] at N9; (try dsimp only); (try k_fold))
          k_steps
          refine ⟨?_⟩
          refine' Pure.use (c_size _ _ (tx.foldl rlePush []) _ hp1 hp2 ?p3) ?k1 ?k2 ?k3 ?k4 ?k5 ?kK ?kd ?ku ?_
          case p3 => exact symsAt_of (by k_asm) S9 (fun p hp => .tail _ (.tail _ (.tail _ (.tail _ hp))))
          (case k1 => k_asm); (case k2 => k_asm); (case k3 => k_asm); (case k4 => k_asm); (case k5 => k_asm); (case kK => exact rfl); (case kd => omega); (case ku => omega); intro v9 new9 h9 tk9 F9 N9 D9 P9; obtain ⟨q9, t9, e9⟩ := P9; subst e9 q9; simp only [List.nil_append] at N9; (try dsimp only); (try k_fold)
          k_steps
          rename News _ _ _ ((_, instObj 113 _) :: _) => NN
          dsimp +zetaDelta only [List.nil_append, List.cons_append] at NN
          rw [hp3] at NN
          exact hret _ _ _ _ _ (by k_asm) NN ⟨_, _, _, _, _, _, _, _, _, _, _, _, _, _, _, _, _, _, _, rfl, .head _, .tail _ (.head _), .tail _ (.tail _ (.tail _ (.tail _ (.tail _ (.tail _ (.head _)))))), S9.mono fun p hp => .tail _ (.tail _ (.tail _ (.tail _ (.tail _ (.tail _ (.tail _ hp))))))⟩
  case cons =>
    rintro ⟨es, st⟩ u a r ⟨rest, cs, hxs, hS, hac, hE, hO, hok⟩
    cases rest with
    | nil => cases hxs
    | cons y rest =>
      injection hxs with e1 e2
      subst e1 e2
      cases cs with
      | nil => exact hS.elim
      | cons c cs =>
      obtain ⟨⟨x, dx, a, k1, k2, k3, t1, t2, t3, rfl, hx, hdx⟩, hS⟩ := hS
      rw [List.foldlM_cons] at hO
      cases hs : st.take c with
      | none => rw [hs] at hO; cases hO
      | some st' =>
      rw [hs] at hO
      replace hO : cs.foldlM OS.take st' = some sf := hO
      have hcA := hac c (.head _)
      rintro v h2 tk rfl F
      ktu_objs
      dsimp only at hE hs hok
      have hst := OS.step hok hcA hs
      have hok' := hst.ok hok
      clear hs hok hcA
      have hE0 := hE
      obtain ⟨TT, rfl⟩ := hE
      dsimp only [kstB] at *
      k_steps
      refine ⟨?_⟩
      rename News _ _ _ (_ :: _) => NN
      rename Fr h L' _ _ => FF
      refine' Mut.use (tl := (_, _) :: (_, _) :: _) (m_take w _ _ _ _ c _ dx a k1 k2 k3 t1 t2 t3 _ (Ne.symm (Nat.ne_of_lt (by assumption))) ⟨_, hE0, rfl⟩ hst) ?v1 FF ?v3 NN ?v5 rfl (by omega) (by omega) ?v6 ?v7 (take_off hI.1 hI.2.1 hol hdl hoo hod) (fun g k _ => ⟨k _ _ hx, k _ _ hdx⟩) ?_
      case v1 => k_asm
      case v3 => k_asm
      case v5 => k_asm
      case v6 => exact List.forall_mem_cons.mpr ⟨.tail _ (.head _), List.forall_mem_cons.mpr ⟨.tail _ (.tail _ (.head _)), fun _ h => nomatch h⟩⟩
      case v7 => exact List.forall_mem_cons.mpr ⟨.head _, fun p hp => .tail _ (.tail _ (.tail _ hp))⟩
      clear NN FF hE0
      intro v9 new9 h9 tk9 F9 N9 D9 P9
      obtain ⟨rfl, es', hE', rfl⟩ := P9
      simp only [List.cons_append, List.nil_append] at N9
      replace N9 := take_perm N9
      (try dsimp only); (try k_fold)
      clear D9
      k_steps
      refine ⟨?_⟩
      dsimp only [UnrPostW]
      refine ord_end F9 N9 hI hO hE' fun hE => ⟨trivial, ⟨⟨(_, _), ?hm, ?hr, rfl, rest, cs, rfl, hS, fun x hx => hac x (.tail _ hx), hE, hO, hok'⟩⟩⟩
      case hm => intro p hp; cases hp
      case hr =>
        intro z _ hs
        have hs' := hs
        simp only [List.contains_cons, List.contains_nil, Bool.or_false, beq_eq_false_iff_ne, ne_eq] at hs'
        simp +zetaDelta only [hs', hs, if_false, Bool.false_eq_true]
end
end C_s5n_part
section C_s6_part
local macro_rules | `(tactic| walk_at "no key 0") => `(tactic| fail)
local macro_rules | `(tactic| walk_at "no key 1") => `(tactic| fail)
set_option maxRecDepth 100000
set_option maxHeartbeats 300000
set_option rowWalk.seconds 0
theorem init_C_s6 : (PySem.Challenge.rw_pb0263_01.Holds → True) ∧ (Mine.hd.heap_1 = Mine.hd.heap_1) := by
  k_fill; exact ⟨fun _ => trivial, rfl⟩
theorem SignIn.at {w : World} {h₀ h : Heap} {L : Addr} {objs all : List (Addr × Obj)} (N : News h₀ L h all) (k : ∀ p ∈ objs, p ∈ all) {v : Value} {c : Nat} : SignIn w objs v c → SignAt w h v c := by
  rintro ⟨x, dx, a, k1, k2, k3, t1, t2, t3, e, h1, h2⟩
  exact ⟨x, dx, a, k1, k2, k3, t1, t2, t3, e, (N _ (k _ h1)).1, (N _ (k _ h2)).1⟩
theorem SignsIn.at {w : World} {h₀ h : Heap} {L : Addr} {objs all : List (Addr × Obj)} (N : News h₀ L h all) (k : ∀ p ∈ objs, p ∈ all) : ∀ {vs : List Value} {cs : List Nat}, SignsIn w objs vs cs → SignsAt w h vs cs := by
  intro vs
  induction vs with
  | nil => intro cs h; cases cs with
    | nil => trivial
    | cons c cs => exact h
  | cons v vs ih => intro cs h; cases cs with
    | nil => exact h
    | cons c cs => exact ⟨h.1.at N k, ih h.2⟩
theorem SignsAt.len {w : World} {h : Heap} : ∀ {vs : List Value} {cs : List Nat}, SignsAt w h vs cs → vs.length = cs.length := by
  intro vs
  induction vs with
  | nil => intro cs h; cases cs with
    | nil => rfl
    | cons c cs => exact h.elim
  | cons v vs ih => intro cs h; cases cs with
    | nil => exact h.elim
    | cons c cs => simp [ih h.2]
theorem SignsAt.get {w : World} {h : Heap} : ∀ {vs : List Value} {cs : List Nat}, SignsAt w h vs cs → ∀ (i : Nat) (v : Value), vs[i]? = some v → ∃ c, cs[i]? = some c ∧ SignAt w h v c := by
  intro vs
  induction vs with
  | nil => intro cs h i v hv; cases hv
  | cons v vs ih => intro cs h i u hv; cases cs with
    | nil => exact h.elim
    | cons c cs =>
      cases i with
      | zero => simp only [List.getElem?_cons_zero, Option.some.injEq] at hv ⊢; exact ⟨c, rfl, hv ▸ h.1⟩
      | succ i => simp only [List.getElem?_cons_succ] at hv ⊢; exact ih h.2 i u hv
theorem al_small : ∀ c ∈ AL, (⟨#[c]⟩ : Str).cps.toList < (Str.ofString "a").cps.toList := by decide +kernel
theorem ones_flat : ∀ tx : List Nat, (tx.map fun c => [c]).flatten = tx
  | [] => rfl
  | c :: r => by rw [List.map_cons, List.flatten_cons, ones_flat r]; rfl
theorem SignsIn.get {w : World} {o : List (Addr × Obj)} : ∀ {vs : List Value} {cs : List Nat}, SignsIn w o vs cs → ∀ (i : Nat) (v : Value), vs[i]? = some v → ∃ c, cs[i]? = some c ∧ SignIn w o v c := by
  intro vs
  induction vs with
  | nil => intro cs h i v hv; cases hv
  | cons v vs ih => intro cs h i u hv; cases cs with
    | nil => exact h.elim
    | cons c cs =>
      cases i with
      | zero => simp only [List.getElem?_cons_zero, Option.some.injEq] at hv ⊢; exact ⟨c, rfl, hv ▸ h.1⟩
      | succ i => simp only [List.getElem?_cons_succ] at hv ⊢; exact ih h.2 i u hv
section
local macro_rules | `(tactic| walk_at "eval ListComp") => `(tactic| (k_here; k_dflt (refine comp_eval (by k_asm) (by with_unfolding_all rfl) (by decide) (by rfl) (by decide) ?_)))
local macro_rules | `(tactic| walk_at "pyIter str") => `(tactic| (k_here; refine Held.out ?_))
local macro_rules | `(tactic| walk_at "pyIter ref") => `(tactic| refine Held.out ?_)
local macro_rules | `(tactic| walk_at "call builtin:str.join") => `(tactic| refine Held.out ?_)
local macro_rules | `(tactic| walk_at "call ref") => `(tactic| (k_here; refine Held.out ?_))
local macro_rules | `(tactic| walk_at "compareOp NotEq ref ref") => `(tactic| refine Held.out ?_)
theorem c_read (w : World) (h : Heap) (tx : List Nat) (t1 : Tok) (ht : tx.length ≤ 30) (ha : ∀ x ∈ tx, x ∈ AL) (sf : OS) (hO : tx.foldlM OS.take {} = some sf)
    (hd1 : 0 < sf.nines + sf.zeros + sf.floats) (hd2 : sf.nines + sf.zeros + sf.floats ≤ 18) (cl : Nat) (hla : sf.last = [cl]) (hlc : cl ≠ 44 ∧ cl ≠ 46) (hp1 : (tx.foldl rlePush []).length ≤ 30) (hp2 : ∀ p ∈ tx.foldl rlePush [], p.1 ∈ AL ∧ p.2 ≤ 30) (hp3 : ((tx.foldl rlePush []).map fun p => (p.2 : Int)).sum = (tx.length : Int)) :
    Pure w 16 324 [.str (St tx) t1] h (fun v new => PicIn w new v tx ((sf.nines : Int) + sf.zeros + sf.floats) sf.behind tx.length) := by
  have hlen : (St tx).length = tx.length := st_length tx
  refine Pure.enter (by k_is) (by k_is) (by exact rfl) (by exact locs rfl) (by decide) ?_ (by exact rfl) (by exact rfl) (by exact rfl) (by decide)
  intro mean mg mb dp un gd outer A₀ base hp₁ gs₁ dr₁ tk₁ os₁ L' Q mF AF EF F' N' B' X' T' hdp hun hret
  ktr_unf
  k_steps
  refine ⟨?_⟩
  refine comp_str (fun i ys => TxtsAre ys ((tx.take i).map fun c => [c])) rfl rfl rfl (by k_asm) (by k_asm) (by rw [hlen]; omega) .nil ?turn ?fin
  case turn =>
    rintro s₂ i ⟨hh, rfl⟩ hi ys own C oC D m₂ h2 tk E' hyl hY hoC ⟨c, u, hci, hx⟩ F2 N2 offD hDC
    have hci' : tx[i]? = some c := by simpa [St] using hci
    have hcA := ha c (List.mem_of_getElem? hci')
    simp only [List.nil_append] at N2
    refine wpAny_tests_nil ?_
    k_steps
    · refine CEnd.intro (by k_asm) N2 (fun p hp => hp) ?_
      rw [List.take_add_one, hci', List.map_append]
      exact hY.snoc [c] _
    · exact absurd (al_small c hcA) (by assumption)
    · exact absurd (al_small c hcA) (by assumption)
  case fin =>
    intro D h' tk ys0 F1 N1 oD hY
    rw [hlen, List.take_length] at hY
    k_steps
    refine ⟨?_⟩
    refine join_T (symE (by k_asm) (by k_mem)) hY lit_none (by rw [List.length_map]; omega) (fun y hy => by obtain ⟨c, _, rfl⟩ := List.mem_map.mp hy; simp) ?_
    intro t' k'
    rw [ones_flat]
    k_steps
    refine ⟨?_⟩
    refine' Pure.use (c_signs_of _ _ tx _ ht ha) ?k1 ?k2 ?k3 ?k4 ?k5 rfl (by omega) (by omega) ?_
    case k1 => k_asm
    case k2 => k_asm
    case k3 => k_asm
    case k4 => k_asm
    case k5 => k_asm
    intro v9 new9 h9 tk9 F9 N9 D9 P9
    obtain ⟨l9, its9, n9, objs9, rfl, rfl, S9⟩ := P9
    simp only [List.cons_append] at N9
    (try dsimp only); (try k_fold)
    clear D9
    k_steps
    refine ⟨?_⟩
    rename News _ _ _ ((_, listOf its9 n9) :: _) => NN
    have hsl := S9.at NN (fun p hp => .tail _ (List.mem_append_left _ hp))
    have hvl := hsl.len
    refine comp_list (vs := its9.toList) (fun i ys => ys = []) rfl rfl rfl (by k_asm) NN (symL NN (.head _)) (symL2 NN (.head _)) (by omega) rfl ?turn2 ?fin2
    case turn2 =>
      rintro s₂ i ⟨hh, rfl⟩ hi ys own C oC D2 m₂ h2 tk2 E' hyl hY hoC ⟨v, hv, hx⟩ F2 N2 offD hDC
      obtain ⟨c, hc, x, dx, a, k1, k2, k3, t1, t2, t3, rfl, hx1, hx2⟩ := S9.get i v hv
      have hcA := ha c (List.mem_of_getElem? hc)
      have N3 : News h L' h2 ((x, instObj 141 dx) :: (dx, signD w c a k1 k2 k3 t1 t2 t3) :: (C, oC) :: (D2, LCg.lst ys) :: (((l9, listOf its9 n9) :: (objs9 ++ [(D, LCg.lst ys0)])) ++ own)) := by
        intro p hp
        rcases List.mem_cons.mp hp with rfl | hp
        · exact N2 _ (.tail _ (.tail _ (.tail _ (List.mem_append_left _ (List.mem_append_left _ hx1)))))
        rcases List.mem_cons.mp hp with rfl | hp
        · exact N2 _ (.tail _ (.tail _ (.tail _ (List.mem_append_left _ (List.mem_append_left _ hx2)))))
        · exact N2 _ hp
      clear N2
      refine wpAny_tests_one ?_
      k_steps
      · exfalso
        rename (List.any _ _ = true) => hany
        have e1 : Str.ofString "A" = St [65] := by decide +kernel
        have e2 : Str.ofString "X" = St [88] := by decide +kernel
        rw [e1, e2] at hany
        simp only [List.any_cons, List.any_nil, st_beq, Bool.or_eq_true, beq_iff_eq, List.cons.injEq, Bool.or_false, and_true] at hany
        simp only [AL, List.mem_cons, List.not_mem_nil, or_false] at hcA
        omega
      · refine CEnd.intro (by k_asm) (by k_asm) (fun p hp => .tail _ (.tail _ (.tail _ hp))) hY
    case fin2 =>
      intro D3 h3 tk3 ys F3 N3 oD3 hY
      subst hY
      k_steps
      refine ⟨?_⟩
      refine ne_nil (items := #[]) (symE (by k_asm) (by k_mem)) (symE0 (by k_asm) (by k_mem)) (by k_units) ?_
      k_steps
      refine ⟨?_⟩
      rename News _ _ _ ((_, listOf #[] 0) :: _) => NN2
      refine' Pure.use (c_number w _ tx l9 its9.toList _ ht (symL NN2 (.tail _ (.tail _ (.head _)))) (S9.at NN2 fun p hp => .tail _ (.tail _ (.tail _ (List.mem_append_left _ hp)))) ha sf hO hd1 hd2 cl hla hlc hp1 hp2 hp3) ?k1 ?k2 ?k3 ?k4 ?k5 rfl (by omega) (by omega) ?_
      case k1 => k_asm
      case k2 => k_asm
      case k3 => k_asm
      case k4 => k_asm
      case k5 => k_asm
      intro v9 new9 h9 tk9 F9 N9 D9 P9
      (try dsimp only); (try k_fold)
      clear D9
      k_steps
      exact hret _ _ _ _ _ (by k_asm) (by k_asm) (P9.mono fun p hp => List.mem_append_left _ hp)
end
end C_s6_part
section C_s7_part
set_option maxRecDepth 100000
set_option maxHeartbeats 300000
set_option rowWalk.seconds 0
theorem init_C_s7 : (PySem.Challenge.rw_pb0263_01.Holds → True) ∧ (Mine.hd.heap_1 = Mine.hd.heap_1) := by
  k_fill; exact ⟨fun _ => trivial, rfl⟩
/-- a Picture that stands in a heap -/
inductive PicAt (w : World) (h : Heap) (v : Value) (tx : List Nat) (dg sc sz : Int) : Prop
  | mk (P D l : Addr) (cat : Str) (sg : Bool) (k0 k1 k2 k3 k4 k5 k6 t0 t2 t3 t4 t6 : Tok) (e : v = .ref P) (h1 : h.get? P = some (instObj 113 D)) (h2 : h.get? D = some (picD w tx l cat dg sc sz sg k0 k1 k2 k3 k4 k5 k6 t0 t2 t3 t4 t6)) (h3 : SymsAt h l (tx.foldl rlePush []))
theorem PicIn.at {w : World} {h₀ h : Heap} {L : Addr} {objs all : List (Addr × Obj)} (N : News h₀ L h all) (k : ∀ p ∈ objs, p ∈ all) {v : Value} {tx : List Nat} {dg sc sz : Int} : PicIn w objs v tx dg sc sz → PicAt w h v tx dg sc sz := by
  rintro ⟨P, D, l, its, n, cat, sg, k0, k1, k2, k3, k4, k5, k6, t0, t2, t3, t4, t6, e, h1, h2, h3, h4⟩
  exact ⟨P, D, l, cat, sg, k0, k1, k2, k3, k4, k5, k6, t0, t2, t3, t4, t6, e, (N _ (k _ h1)).1, (N _ (k _ h2)).1, symsAt_of N h4 (fun p hp => by
    rcases List.mem_cons.mp hp with rfl | hp
    · exact k _ h3
    · exact k _ hp)⟩
theorem SymsAt.keeps {h h' : Heap} (k : ∀ b o, h.get? b = some o → h'.get? b = some o) {l : Addr} {ps : List (Nat × Nat)} : SymsAt h l ps → SymsAt h' l ps := by
  rintro ⟨vs, a, b, c⟩
  refine ⟨vs, isList_stays k a, b, fun i v p h1 h2 => ?_⟩
  obtain ⟨T, t1, t2, e, hT⟩ := c i v p h1 h2
  exact ⟨T, t1, t2, e, isTup_stays k hT⟩
theorem PicAt.keeps {w : World} {h h' : Heap} (k : ∀ b o, h.get? b = some o → h'.get? b = some o) {v : Value} {tx : List Nat} {dg sc sz : Int} : PicAt w h v tx dg sc sz → PicAt w h' v tx dg sc sz := by
  rintro ⟨P, D, l, cat, sg, k0, k1, k2, k3, k4, k5, k6, t0, t2, t3, t4, t6, e, h1, h2, h3⟩
  exact ⟨P, D, l, cat, sg, k0, k1, k2, k3, k4, k5, k6, t0, t2, t3, t4, t6, e, k _ _ h1, k _ _ h2, h3.keeps k⟩
/-- the symbols written out -/
noncomputable def unrle (ps : List (Nat × Nat)) : List Nat := ps.flatMap fun p => List.replicate p.2 p.1
theorem unrle_push (acc : List (Nat × Nat)) (c : Nat) : unrle (rlePush acc c) = unrle acc ++ [c] := by
  unfold rlePush
  cases h : acc.getLast? with
  | none => rw [List.getLast?_eq_none_iff.mp h]; rfl
  | some p =>
    obtain ⟨d, n⟩ := p
    dsimp only
    have e : acc = acc.dropLast ++ [(d, n)] := by
      have hne : acc ≠ [] := by rintro rfl; cases h
      have e2 : acc.getLast hne = (d, n) := by rw [List.getLast?_eq_some_getLast hne] at h; exact Option.some.inj h
      rw [← e2]; exact (List.dropLast_concat_getLast hne).symm
    split
    · subst c
      conv => rhs; rw [e]
      simp [unrle, List.replicate_succ']
    · simp [unrle]
theorem unrle_foldl (tx : List Nat) : ∀ acc, unrle (tx.foldl rlePush acc) = unrle acc ++ tx := by
  induction tx with
  | nil => simp
  | cons c r ih => intro acc; rw [List.foldl_cons, ih, unrle_push]; simp
theorem unrle_rle (tx : List Nat) : unrle (tx.foldl rlePush []) = tx := by rw [unrle_foldl]; rfl
theorem rle_pos_push {acc : List (Nat × Nat)} {c : Nat} (h : ∀ p ∈ acc, 1 ≤ p.2) : ∀ p ∈ rlePush acc c, 1 ≤ p.2 := by
  unfold rlePush
  cases h' : acc.getLast? with
  | none => intro p hp; rw [List.mem_singleton.mp hp]; exact Nat.le_refl _
  | some q =>
    obtain ⟨d, n⟩ := q
    dsimp only
    split
    · intro p hp
      rcases List.mem_append.mp hp with hp | hp
      · exact h p (List.dropLast_subset _ hp)
      · rw [List.mem_singleton.mp hp]; show 1 ≤ n + 1; omega
    · intro p hp
      rcases List.mem_append.mp hp with hp | hp
      · exact h p hp
      · rw [List.mem_singleton.mp hp]; exact Nat.le_refl _
theorem rle_pos (tx : List Nat) : ∀ acc, (∀ p ∈ acc, 1 ≤ p.2) → ∀ p ∈ tx.foldl rlePush acc, 1 ≤ p.2 := by
  induction tx with
  | nil => intro acc h; exact h
  | cons c r ih => intro acc h; rw [List.foldl_cons]; exact ih _ (rle_pos_push h)
theorem unrle_len_cons (p : Nat × Nat) (r : List (Nat × Nat)) : (unrle (p :: r)).length = p.2 + (unrle r).length := by simp [unrle]
section
theorem unrle_take {ps : List (Nat × Nat)} {i : Nat} (hi : i < ps.length) : unrle (ps.take (i + 1)) = unrle (ps.take i) ++ List.replicate ps[i].2 ps[i].1 := by
  have e : ps.take (i + 1) = ps.take i ++ [ps[i]] := by rw [List.take_add_one, List.getElem?_eq_getElem hi]; rfl
  rw [e, unrle, List.flatMap_append]; simp [unrle]
theorem unrle_le (ps : List (Nat × Nat)) (i : Nat) : (unrle (ps.take i)).length ≤ (unrle ps).length := by
  have : unrle ps = unrle (ps.take i) ++ unrle (ps.drop i) := by
    conv => lhs; rw [← List.take_append_drop i ps]
    rw [unrle, List.flatMap_append]; rfl
  rw [this]; simp
theorem TxtsAre.rep (c n : Nat) (t : Tok) : TxtsAre (List.replicate n (.str (St [c]) t)) ((List.replicate n c).map fun c => [c]) := ⟨List.replicate n (St [c], t), by simp [strValues], by simp⟩
theorem drop_cons {α : Type} {vs : List α} {i : Nat} {y : α} {r : List α} (h : vs.drop i = y :: r) : vs[i]? = some y ∧ vs.drop (i + 1) = r := by
  have hi : i < vs.length := by
    rcases Nat.lt_or_ge i vs.length with h' | h'
    · exact h'
    · rw [List.drop_eq_nil_of_le h'] at h; cases h
  rw [List.drop_eq_getElem_cons hi] at h
  injection h with h1 h2
  exact ⟨by rw [List.getElem?_eq_getElem hi, h1], h2⟩
local macro_rules | `(tactic| walk_at "pyIter ref") => `(tactic| refine Held.out ?_)
local macro_rules | `(tactic| walk_at "UnrPostW") => `(tactic| refine Held.out ?_)
local macro_rules | `(tactic| walk_at "UnrEndW") => `(tactic| refine Held.out ?_)
local macro_rules | `(tactic| walk_at "exec For Tuple Attribute cons nil") => `(tactic| (k_here; (rename Fr _ _ _ _ => lF'); (with_unfolding_all refine' For_turns lF' ?_; k_whole)))
local macro_rules | `(tactic| walk_at "binaryOp Mult ref int") => `(tactic| (k_here; refine Held.out ?_))
local macro_rules | `(tactic| walk_at "call builtin:list.extend") => `(tactic| (k_here; refine Held.out ?_))
theorem c_places (w : World) (h : Heap) (v : Value) (tx : List Nat) (dg sc sz : Int) (ht : tx.length ≤ 30) (hP : PicAt w h v tx dg sc sz) :
    Pure w 6 331 [v] h (fun v new => ∃ l its n objs, v = .ref l ∧ new = (l, listOf its n) :: objs ∧ TxtsAre its.toList (tx.map fun c => [c])) := by
  obtain ⟨P, D, l, cat, sg, k0, k1, k2, k3, k4, k5, k6, t0, t2, t3, t4, t6, rfl, hP1, hP2, vs, hl, hvl, hvs⟩ := hP
  generalize hps : tx.foldl rlePush [] = ps at hvl hvs
  have hpos : ∀ p ∈ ps, 1 ≤ p.2 := hps ▸ rle_pos tx [] (fun p hp => nomatch hp)
  have hun : unrle ps = tx := hps ▸ unrle_rle tx
  refine Pure.enter (by k_is) (by k_is) (by exact rfl) (by exact locs rfl) (by decide) ?_ (by exact rfl) (by exact rfl) (by exact rfl) (by decide)
  intro mean mg mb dp un gd outer A₀ base hp₁ gs₁ dr₁ tk₁ os₁ L' Q mF AF EF F' N' B' X' T' hdp hun' hret
  ktr_unf
  k_steps
  refine ⟨?_⟩
  rename News _ _ _ ((_, listOf #[] 0) :: _) => NN
  refine base_turns rfl (by k_asm) NN hl ?_
  intro I hI
  replace hI : @LT.lt Nat _ _ I := hI _ (.head _)
  refine' rest_loopB (β := Addr) (σ := Array Value × Nat) _ (fun b c => []) (fun b c => [(b, listOf c.1 c.2)]) ["sign", "count"]
    (fun b xs c => ∃ i, xs = (vs.drop i).map Itm.val ∧ i ≤ ps.length ∧ TxtsAre c.1.toList ((unrle (ps.take i)).map fun c => [c])) (#[], 0) ?hm rfl ?hR ?nil ?cons
  case hm => intro p hp; cases hp
  case hR => exact ⟨0, rfl, Nat.zero_le _, .nil⟩
  case nil =>
    rintro ⟨its, n⟩ u h2 tk ⟨i, hxs, hi, hY⟩ F N
    have hd : vs.length ≤ i := by
      cases hx : vs.drop i with
      | nil => exact List.drop_eq_nil_iff.mp hx
      | cons y r => rw [hx] at hxs; cases hxs
    rw [List.take_of_length_le (by omega), hun] at hY
    dsimp only [kstB] at *
    k_steps
    exact hret _ _ _ _ _ (by k_asm) (by k_asm) ⟨_, _, _, [], rfl, rfl, hY⟩
  case cons =>
    rintro ⟨its, n⟩ u a r ⟨i, hxs, hi, hY⟩
    cases hx : vs.drop i with
    | nil => rw [hx] at hxs; cases hxs
    | cons y rest =>
      obtain ⟨hy, hr⟩ := drop_cons hx
      rw [hx] at hxs
      injection hxs with e1 e2
      subst e1 e2
      have hi' : i < ps.length := by rw [← hvl]; exact (List.getElem?_eq_some_iff.mp hy).1
      obtain ⟨T, t5, t7, rfl, hT⟩ := hvs i y ps[i] hy (List.getElem?_eq_getElem hi')
      rintro v h2 tk rfl F
      replace hT := isTup_stays (fun b o e => F.keep b o e) hT
      ktu_objs
      dsimp only [kstB] at *
      k_steps
      have htk := unrle_take hi'
      have hle := unrle_le ps (i + 1)
      rw [htk, hun, List.length_append, List.length_replicate] at hle
      have hsz := hY.length
      rw [Array.length_toList, List.length_map] at hsz
      have hp1 := hpos ps[i] (List.getElem_mem hi')
      refine ⟨?_⟩
      refine' KMa.mul ?F ?N ?l ?lo ?hi ?z ?e ?_
      case F => k_asm
      case N => k_asm
      case l => is_list
      case lo => omega
      case hi => omega
      case z => simp; omega
      case e => rw [List.flatten_replicate_singleton]
      intro D' h' F' N' l1
      k_lt l1
      k_steps
      refine ⟨?_⟩
      refine' kl_extend (l := its.toList ++ List.replicate (((ps[i].2 : Nat) : Int)).toNat (.str (St [ps[i].1]) t5)) ?F ?N ?b ?e ?ne ?U ?d ?z ?y ?_
      case F => k_asm
      case N => k_asm
      case b => exact .head _
      case U => k_upd
      case e => simp
      case ne => rw [List.length_replicate]; omega
      case d => simp [Builtin.List.listTooLong, sizeLine]; omega
      case z => simp [sizeLine]; omega
      case y => simp [sizeLine]; omega
      intro h4 F4 N4
      k_steps
      refine ⟨?_⟩
      dsimp only [UnrPostW]
      refine unr_end1 F4 N4 _ (.tail _ (.tail _ (.head _))) (fun p hp => .tail _ (.tail _ (.tail _ hp))) (fun p hp => by rw [List.mem_singleton.mp hp]; exact Nat.ne_of_lt hI) ⟨trivial, ⟨⟨(_, _), ?hm, ?hr, rfl, i + 1, by rw [hr], hi', ?hY⟩⟩⟩
      case hm => intro p hp; cases hp
      case hY =>
        rw [htk, List.map_append]
        exact hY.append (TxtsAre.rep _ _ _)
      case hr =>
        intro z _ hs
        have hs' := hs
        simp only [List.contains_cons, List.contains_nil, Bool.or_false, Bool.or_eq_false_iff, beq_eq_false_iff_ne, ne_eq] at hs'
        simp +zetaDelta only [hs', hs, if_false, Bool.false_eq_true]
end
end C_s7_part
section C_s8_part
local macro_rules | `(tactic| walk_at "no key 0") => `(tactic| fail)
local macro_rules | `(tactic| walk_at "no key 1") => `(tactic| fail)
set_option maxRecDepth 100000
set_option maxHeartbeats 300000
set_option rowWalk.seconds 0
theorem init_C_s8 : (PySem.Challenge.rw_pb0263_01.Holds → True) ∧ (Mine.hd.heap_1 = Mine.hd.heap_1) := by
  k_fill; exact ⟨fun _ => trivial, rfl⟩
/-- a text's code points -/
noncomputable def rl (x : String) : List Nat := (Str.ofString x).cps.toList
theorem St_rl (x : String) : St (rl x) = Str.ofString x := by simp [St, rl]
noncomputable def floatOf (tx : List Nat) : List Nat := if 1 < tx.count 36 then [36] else if 1 < tx.count 43 then [43] else if 1 < tx.count 45 then [45] else []
theorem count_ones (tx : List Nat) (c : Nat) : (tx.map fun c => [c]).count [c] = tx.count c := by
  induction tx with
  | nil => rfl
  | cons d r ih =>
    rw [List.map_cons, List.count_cons, List.count_cons, ih]
    simp
section
local macro_rules | `(tactic| walk_at "call ref") => `(tactic| (k_here; refine Held.out ?_))
local macro_rules | `(tactic| walk_at "pyIter str") => `(tactic| ((with_reducible show wpAny _ _ (pyIter (Value.str _ _)) (fun it s₂ => LoopAtV _ _ _ _ _ _ _ _ _ it s₂) _ _); k_here; k_strUnr))
local macro_rules | `(tactic| walk_at "exec For Name Name cons nil") => `(tactic| (k_here; (with_reducible show wpAny _ _ (exec (Stmt.For _ _ _ [] _) _) _ _ _); (rename Fr _ _ _ _ => lF'); (with_unfolding_all refine' For_invVF lF' ?k1 ?k2 ?_; (case k1 => exact rfl); (case k2 => exact rfl); k_whole)))
local macro_rules | `(tactic| walk_at "getMethod ref") => `(tactic| (k_here; (with_reducible show wpAny _ _ (getMethod (Value.ref _) (Str.ofString "count") _) _ _ _); refine list_method (Fr.keep (by k_asm) _ _ (by assumption)) PySem.F.slot_list_count PySem.F.type_list_count ?_))
local macro_rules | `(tactic| walk_at "call builtin:list.count") => `(tactic| (k_here; k_dflt (refine' count_T ?k1 ?k3 ?k4 ?_; (case k1 => exact listAt_is' (Fr.keep (by k_asm) _ _ (by assumption))); (case k3 => assumption); (case k4 => (first | exact lit_dollar | exact lit_plus | exact lit_minus)))))
theorem c_float (w : World) (h : Heap) (tx : List Nat) (l : Addr) (its : Array Value) (n : Nat) (ht : tx.length ≤ 30) (hl : h.get? l = some (listOf its n)) (hv : TxtsAre its.toList (tx.map fun c => [c])) :
    Pure w 4 338 [.ref l] h (fun v new => new = [] ∧ ∃ t, v = .str (St (floatOf tx)) t) := by
  have h36 := count_ones tx 36
  have h43 := count_ones tx 43
  have h45 := count_ones tx 45
  refine Pure.enter (by k_is) (by k_is) (by exact rfl) (by exact locs rfl) (by decide) ?_ (by exact rfl) (by exact rfl) (by exact rfl) (by decide)
  intro mean mg mb dp un gd outer A₀ base hp₁ gs₁ dr₁ tk₁ os₁ L' Q mF AF EF F' N' B' X' T' hdp hun' hret
  ktr_unf
  k_steps
  all_goals refine hret _ [] _ _ _ (by k_asm) (fun _ hp => nomatch hp) ⟨rfl, _, congrArg (Value.str · _) ?_⟩
  · rw [floatOf, if_pos (by omega)]; exact lit_dollar
  · rw [floatOf, if_neg (by omega), if_pos (by omega)]; exact lit_plus
  · rw [floatOf, if_neg (by omega), if_neg (by omega), if_pos (by omega)]; exact lit_minus
  · rw [floatOf, if_neg (by omega), if_neg (by omega), if_neg (by omega)]; exact lit_none
noncomputable def roleOne (c : Nat) : List Nat := if c = 57 then rl "figure" else if c = 90 then rl "zero" else if c = 42 then rl "star" else if c = 46 then rl "point" else if c = 44 then rl "insert" else rl "fixed"
noncomputable def roleStep (fl : List Nat) (acc : List (List Nat)) (c : Nat) : List (List Nat) := acc ++ [if [c] = fl then (if rl "lead" ∈ acc then rl "float" else rl "lead") else roleOne c]
noncomputable def rolesOf (tx : List Nat) : List (List Nat) := tx.foldl (roleStep (floatOf tx)) []
local macro_rules | `(tactic| walk_at "exec For Name Name cons nil") => `(tactic| (k_here; (with_reducible show wpAny _ _ (exec (Stmt.For _ (PySem.Expr.Name (Str.ofString "INSERTED") _) _ _ _) _) _ _ _); refine Held.out ?_))
local macro_rules | `(tactic| walk_at "setItem ref str") => `(tactic| (k_here; (refine' ans_set ?F ?N ?U ?d ?z ?_; (case F => k_asm); (case N => k_asm); (case U => k_updF); (case d => k_asm); (case z => omega)); intro h' o' F' N' hd'; (try dsimp only at N')))
local macro_rules | `(tactic| walk_at "exec For Name Name cons nil") => `(tactic| (k_here; (with_reducible show wpAny _ _ (exec (Stmt.For _ (PySem.Expr.Name (Str.ofString "signs") _) _ _ _) _) _ _ _); (rename Fr _ _ _ _ => lF'); (with_unfolding_all refine' For_turns lF' ?_; k_whole)))
local macro_rules | `(tactic| walk_at "pyIter ref") => `(tactic| refine Held.out ?_)
local macro_rules | `(tactic| walk_at "UnrPostW") => `(tactic| refine Held.out ?_)
local macro_rules | `(tactic| walk_at "UnrEndW") => `(tactic| refine Held.out ?_)
local macro_rules | `(tactic| walk_at "getMethod ref") => `(tactic| (k_here; (with_reducible show wpAny _ _ (getMethod (Value.ref _) (Str.ofString "get") _) _ _ _); refine ans_method (by k_asm) (by k_mem) (by assumption) ?_))
local macro_rules | `(tactic| walk_at "call builtin:dict.get") => `(tactic| (k_here; refine ans_get (by k_asm) (by k_mem) (by assumption) (by assumption) ?_))
local macro_rules | `(tactic| walk_at "compareOp In str ref") => `(tactic| (k_here; refine in_T (listAt_is (newsGet (by k_asm) (by k_mem))) (by assumption) (St_rl "lead").symm ?_))
theorem ans_al {w : World} {o : Obj} {n : Nat} {f : Str → Option Value} (h : Answers PySem.Challenge.rw_pb0263_01.row.prog w o n f) (hf : ∀ c ∈ AL, ∀ tk, ∃ t, (f (St [c])).getD (.str (Str.ofString "fixed") tk) = .str (St (roleOne c)) t) :
    ∃ f, Answers PySem.Challenge.rw_pb0263_01.row.prog w o n f ∧ ∀ c ∈ AL, ∀ tk, ∃ t, (f (St [c])).getD (.str (Str.ofString "fixed") tk) = .str (St (roleOne c)) t := ⟨f, h, hf⟩
theorem roles_len' (fl : List Nat) (tx : List Nat) : ∀ acc, (tx.foldl (roleStep fl) acc).length = acc.length + tx.length := by
  induction tx with
  | nil => intro acc; rfl
  | cons c r ih => intro acc; rw [List.foldl_cons, ih]; simp [roleStep]; omega
theorem roles_len (fl : List Nat) (tx : List Nat) : (tx.foldl (roleStep fl) []).length = tx.length := by rw [roles_len']; simp
theorem roles_next {fl tx : List Nat} {i c : Nat} {js : Array Value} {x : List Nat} {v : Value} {t : Tok} (hc : tx[i]? = some c) (hY : TxtsAre js.toList ((tx.take i).foldl (roleStep fl) [])) (hv : v = .str (St x) t)
    (e : (if [c] = fl then (if rl "lead" ∈ (tx.take i).foldl (roleStep fl) [] then rl "float" else rl "lead") else roleOne c) = x) : TxtsAre (js.push v).toList ((tx.take (i + 1)).foldl (roleStep fl) []) := by
  rw [Array.toList_push, List.take_add_one, hc, Option.toList_some, List.foldl_append, hv]
  show TxtsAre _ (roleStep fl _ c)
  rw [roleStep, e]
  exact hY.snoc x t
theorem c_roles (w : World) (h : Heap) (tx : List Nat) (l : Addr) (its : Array Value) (n : Nat) (ht : tx.length ≤ 30) (ha : ∀ x ∈ tx, x ∈ AL) (hl : h.get? l = some (listOf its n)) (hv : TxtsAre its.toList (tx.map fun c => [c])) :
    Pure w 6 345 [.ref l] h (fun v new => ∃ l its n objs, v = .ref l ∧ new = (l, listOf its n) :: objs ∧ TxtsAre its.toList (rolesOf tx)) := by
  refine Pure.enter (by k_is) (by k_is) (by exact rfl) (by exact locs rfl) (by decide) ?_ (by exact rfl) (by exact rfl) (by exact rfl) (by decide)
  intro mean mg mb dp un gd outer A₀ base hp₁ gs₁ dr₁ tk₁ os₁ L' Q mF AF EF F' N' B' X' T' hdp hun' hret
  ktr_unf
  k_steps
  refine ⟨?_⟩
  rename (Obj.IsDictOf _ _ _) => hd0
  rename PyProof.V.FlatPairs _ _ _ => hf9
  clear hf9
  have hA : Answers _ w _ 10 _ := ⟨_, hd0, by simp only [strPairs, List.length_cons, List.length_nil]; omega, fun x => rfl⟩
  clear hd0
  rename Fr _ _ _ _ => lF'
  rename News _ _ _ _ => lN'
  rename (_ == sysModules) = false => lo9
  refine' For_invVF lF' ?k1 ?k2 ?_
  case k1 => exact rfl
  case k2 => exact rfl
  k_steps
  refine ⟨?_⟩
  refine' Pure.use (c_float _ _ tx l its n ht (Fr.keep (by k_asm) _ _ hl) hv) ?k1 ?k2 ?k3 ?k4 ?k5 rfl (by omega) (by omega) ?_
  case k1 => k_asm
  case k2 => k_asm
  case k3 => k_asm
  case k4 => k_asm
  case k5 => k_asm
  intro v9 new9 h9 tk9 F9 N9 D9 P9
  obtain ⟨rfl, t9, rfl⟩ := P9
  simp only [List.nil_append] at N9
  (try dsimp only); (try k_fold)
  clear D9
  rename Answers _ _ _ _ _ => hA4
  have hG := ans_al hA4 (by
    intro c hc tk
    simp only [AL, List.mem_cons, List.not_mem_nil, or_false] at hc
    rcases hc with rfl | rfl | rfl | rfl | rfl | rfl | rfl | rfl
    all_goals exact ⟨_, rfl⟩)
  clear hA4
  obtain ⟨f, hA, hG⟩ := hG
  k_steps
  refine ⟨?_⟩
  rename News _ _ _ (_ :: (_, listOf #[] 0) :: _) => NN
  replace NN := ord_drop NN
  rename Fr _ _ _ _ => FF
  dsimp +zetaDelta only at FF
  obtain ⟨D0, hD0⟩ : ∃ D0, D0 = hp₁.objs.size := ⟨_, rfl⟩
  rw [← hD0] at NN FF lo9
  refine base_turns rfl FF NN (listAt_is' hl) ?_
  intro I hI
  replace hI := allLt_of hI
  simp only [AllLt] at hI
  refine' rest_loopB (β := Addr × Addr × Obj) (σ := Array Value × Nat) (_, _, _) (fun b c => []) (fun b c => [(b.1, listOf c.1 c.2), (b.2.1, b.2.2)]) ["sign"]
    (fun b xs c => ∃ i, xs = (its.toList.drop i).map Itm.val ∧ i ≤ tx.length ∧ TxtsAre c.1.toList ((tx.take i).foldl (roleStep (floatOf tx)) [])) (#[], 0) ?hm rfl ?hR ?nil ?cons
  case hm => intro p hp; cases hp
  case hR => exact ⟨0, rfl, Nat.zero_le _, .nil⟩
  case nil =>
    rintro ⟨js, n⟩ u h2 tk ⟨i, hxs, hi, hY⟩ F N
    have hvl := hv.length
    rw [List.length_map] at hvl
    have hd : tx.length ≤ i := by
      cases hx : its.toList.drop i with
      | nil => rw [← hvl]; exact List.drop_eq_nil_iff.mp hx
      | cons y r => rw [hx] at hxs; cases hxs
    rw [List.take_of_length_le hd] at hY
    dsimp only [kstB] at F N hY ⊢
    k_steps
    exact hret _ _ _ _ _ (by k_asm) (by k_asm) ⟨_, _, _, _, rfl, rfl, hY⟩
  case cons =>
    rintro ⟨js, n⟩ u a r ⟨i, hxs, hi, hY⟩
    clear FF NN
    cases hx : its.toList.drop i with
    | nil => rw [hx] at hxs; cases hxs
    | cons y rest =>
      obtain ⟨hy, hr⟩ := drop_cons hx
      rw [hx] at hxs
      injection hxs with e1 e2
      subst e1 e2
      obtain ⟨z, t5, hz, rfl⟩ := hv.get hy
      rw [List.getElem?_map] at hz
      obtain ⟨c, hc, rfl⟩ := Option.map_eq_some_iff.mp hz
      have hcA := ha c (List.mem_of_getElem? hc)
      have hi' : i < tx.length := (List.getElem?_eq_some_iff.mp hc).1
      have hlen := hY.length
      rw [Array.length_toList, roles_len, List.length_take] at hlen
      dsimp only at hlen
      rintro v h2 tk rfl F
      ktu_objs
      dsimp only [kstB] at F hY ⊢
      k_steps
      all_goals (
        refine ⟨?_⟩
        dsimp only [UnrPostW]
        rename News _ _ _ ((_, _) :: (_, listOf (Array.push _ _) _) :: _) => NN
        rename Fr h L' _ _ => FF2
        refine unr_end1 FF2 NN _ (.head _) (fun p hp => .tail _ hp) (List.forall_mem_cons.mpr ⟨neN (by omega), List.forall_mem_cons.mpr ⟨neN (by omega), fun _ h => nomatch h⟩⟩) ⟨trivial, ⟨⟨(_, _), ?_, ?_, rfl, i + 1, ?_, hi', ?_⟩⟩⟩
        · intro p hp; cases hp
        · intro z _ hs
          have hs' := hs
          simp only [List.contains_cons, List.contains_nil, Bool.or_false, beq_eq_false_iff_ne, ne_eq] at hs'
          simp +zetaDelta only [hs', hs, if_false, Bool.false_eq_true]
        · rw [hr])
      · rename ((_ == _) = true) => e1
        rw [st_beq, beq_iff_eq] at e1
        refine roles_next (x := rl "float") hc hY (congrArg (Value.str · _) (St_rl "float").symm) ?_
        rw [if_pos e1, if_pos (by assumption)]
      · rename ((_ == _) = true) => e1
        rw [st_beq, beq_iff_eq] at e1
        refine roles_next (x := rl "lead") hc hY (congrArg (Value.str · _) (St_rl "lead").symm) ?_
        rw [if_pos e1, if_neg (by assumption)]
      · rename ((_ == _) = false) => e1
        rw [st_beq, beq_eq_false_iff_ne] at e1
        obtain ⟨t7, e7⟩ := hG c hcA _
        refine roles_next hc hY e7 ?_
        rw [if_neg e1]
end
end C_s8_part
section C_s9_part
local macro_rules | `(tactic| walk_at "no key 0") => `(tactic| fail)
set_option maxRecDepth 100000
set_option maxHeartbeats 300000
set_option rowWalk.seconds 0
theorem init_C_s9 : (PySem.Challenge.rw_pb0263_01.Holds → True) ∧ (Mine.hd.heap_1 = Mine.hd.heap_1) := by
  k_fill; exact ⟨fun _ => trivial, rfl⟩
section
local macro_rules | `(tactic| walk_at "exec While BoolOp cons nil") => `(tactic| refine Held.out ?_)
local macro_rules | `(tactic| walk_at "binaryOp Mult int int") => `(tactic| refine mul_int ?_ (IntMulOk.of_right (by assumption)))
theorem c_decimal (w : World) (h : Heap) (u sc : Int) (t1 t2 : Tok) (hs : 0 ≤ sc ∧ sc ≤ 2) :
    Pure w 4 36 [.int u t1, .int sc t2] h (fun v new => ∃ T u' s' t3 t4, v = .ref T ∧ new = [(T, tupObj [.int u' t3, .int s' t4])] ∧ 0 ≤ s' ∧ s' ≤ sc ∧ u' * 10 ^ (sc - s').toNat = u) := by
  refine Pure.enterD (by k_is) (by k_is) (by intro s' X'; first | exact BindsTo.of_eq rfl | exact binds_K X' rfl (by k_is) rfl rfl rfl) (by exact locs rfl) (by decide) ?_ (by exact rfl) (by exact rfl) (by exact rfl) (by decide)
  intro mean mg mb dp un gd outer A₀ base hp₁ gs₁ dr₁ tk₁ os₁ L' Q mF AF EF F' N' B' X' T' hdp hun' hret
  ktr_unf
  k_steps
  refine ⟨?_⟩
  refine' while_loop (β := Unit) (σ := (Int × Tok) × (Int × Tok)) () (fun _ _ => []) (fun _ c => [("units", .int c.1.1 c.1.2), ("scale", .int c.2.1 c.2.2)]) [] (fun _ c => 0 ≤ c.2.1 ∧ c.2.1 ≤ sc ∧ c.1.1 * 10 ^ (sc - c.2.1).toNat = u) (fun c => c.2.1.toNat) ((u, t1), (sc, t2)) ?F ?N ?hk ?hp ?turn
  case F => k_asm
  case N => k_asm
  case hk => simp only [List.mem_cons, List.not_mem_nil, or_false, forall_eq_or_imp, forall_eq]; exact ⟨rfl, rfl⟩
  case hp => exact ⟨hs.1, Int.le_refl _, by simp⟩
  case turn =>
    rintro ⟨⟨u1, tu⟩, ⟨s1, ts⟩⟩ m h2 tk ⟨h1, h3, h4⟩ F N
    dsimp only [kstB] at F N h1 h3 h4 ⊢
    k_steps
    · (try dsimp only)
      refine ⟨?_⟩
      refine' ksw_end ((u1.fdiv 10, _), (s1 - 1, _)) ?F ?N (fun p hp => hp) trivial ?hk ?_ ⟨?_, ?_, ?_⟩ ?_
      case F => k_asm
      case N => k_asm
      case hk =>
        refine List.forall_mem_cons.mpr ⟨?_, List.forall_mem_cons.mpr ⟨?_, fun _ h => nomatch h⟩⟩
        · exact rfl
        · exact rfl
      · intro z hz hs
        simp only [List.mem_cons, List.not_mem_nil, or_false, forall_eq_or_imp, forall_eq] at hz
        simp +zetaDelta only [hz.1, hz.2, if_false]
        (try simp)
      · dsimp only; omega
      · dsimp only; omega
      · (try dsimp only)
        rename (_ = (0 : Int)) => hf
        rw [Int.fmod_eq_emod_of_nonneg _ (by decide)] at hf
        rw [Int.fdiv_eq_ediv_of_nonneg _ (by decide)]
        have e : u1 = u1 / 10 * 10 := by omega
        have e2 : (sc - (s1 - 1)).toNat = (sc - s1).toNat + 1 := by omega
        rw [e2, Int.pow_succ, ← h4]
        conv => rhs; rw [e]
        rw [Int.mul_assoc, Int.mul_comm 10]
      · show (s1 - 1).toNat < s1.toNat
        omega
    · exact hret _ _ _ _ _ (by k_asm) (by k_asm) ⟨_, _, _, _, _, rfl, rfl, h1, h3, h4⟩
    · exact hret _ _ _ _ _ (by k_asm) (by k_asm) ⟨_, _, _, _, _, rfl, rfl, h1, h3, h4⟩
theorem c_units (w : World) (h : Heap) (T : Addr) (u s sc : Int) (t1 t2 t3 : Tok) (hT : IsTup h T #[.int u t1, .int s t2]) (hs : 0 ≤ s ∧ s ≤ sc ∧ sc ≤ 2) :
    Pure w 4 43 [.ref T, .int sc t3, .bool false] h (fun v new => new = [] ∧ ∃ t, v = .int (u * 10 ^ (sc - s).toNat) t) := by
  have hb : Builtin.Int.intBits (10 ^ (sc - s).toNat) ≤ 64 := by
    have : (sc - s).toNat = 0 ∨ (sc - s).toNat = 1 ∨ (sc - s).toNat = 2 := by omega
    rcases this with e | e | e <;> rw [e] <;> decide
  refine Pure.enterD (by k_is) (by k_is) (by intro s' X'; first | exact BindsTo.of_eq rfl | exact binds_K X' rfl (by k_is) rfl rfl rfl) (by exact locs rfl) (by decide) ?_ (by exact rfl) (by exact rfl) (by exact rfl) (by decide)
  intro mean mg mb dp un gd outer A₀ base hp₁ gs₁ dr₁ tk₁ os₁ L' Q mF AF EF F' N' B' X' T' hdp hun' hret
  ktr_unf
  k_steps
  exact hret _ [] _ _ _ (by k_asm) (fun _ hp => nomatch hp) ⟨rfl, _, rfl⟩
end
end C_s9_part
section C_s10_part
set_option maxRecDepth 100000
set_option maxHeartbeats 300000
set_option rowWalk.seconds 0
theorem init_C_s10 : (PySem.Challenge.rw_pb0263_01.Holds → True) ∧ (Mine.hd.heap_1 = Mine.hd.heap_1) := by
  k_fill; exact ⟨fun _ => trivial, rfl⟩
section
local macro_rules | `(tactic| walk_at "call ref") => `(tactic| (k_here; refine Held.out ?_))
local macro_rules | `(tactic| walk_at "eval IfExp") => `(tactic| ((fail_if_success (rename ((_ : Nat) % _ = _) => hx)); refine Held.out ?_))
local macro_rules | `(tactic| walk_at "call type:str") => `(tactic| refine Held.out ?_)
local macro_rules | `(tactic| tb_rel) => `(tactic| ((try simp only [str_len_append, st_length, lit_none, List.length_cons, List.length_nil, List.length_append, List.length_replicate]); omega))
local macro_rules | `(tactic| walk_at "binaryOp Add str str") => `(tactic| (k_here; k_dflt (refine' add_S ?z ?_; (case z => tb_rel); k_whole); intro t' k'; (try dsimp only)))
local macro_rules | `(tactic| walk_at "binaryOp Mult str int") => `(tactic| refine Held.out ?_)
noncomputable def figsOf (dg n : Nat) : List Nat := List.replicate (dg - (if n = 0 then [] else digs n).length) 48 ++ (if n = 0 then [] else digs n)
theorem abs_mod (U : Int) (k : Nat) : (if U < 0 then -U else U).fmod (10 ^ k) = ((U.natAbs % 10 ^ k : Nat) : Int) := by
  have e : (if U < 0 then -U else U) = (U.natAbs : Int) := by split <;> omega
  rw [e, Int.fmod_eq_emod_of_nonneg _ (Int.pow_nonneg (by decide))]
  simp
theorem figs_eq {D : Addr} {x y : Str} {t : Tok} {b b' : Bool} (e : x = y) (e2 : b = b') : [(D, ({ cls := .type "tuple", data := .seq #[.str x t, .bool b] } : Obj))] = [(D, tupObj [.str y t, .bool b'])] := by subst e e2; rfl
theorem c_figs (w : World) (h : Heap) (v : Value) (tx : List Nat) (dg sc sz : Int) (T : Addr) (u s : Int) (t1 t2 : Tok) (hP : PicAt w h v tx dg sc sz) (hT : IsTup h T #[.int u t1, .int s t2]) (hs : 0 ≤ s ∧ s ≤ sc ∧ sc ≤ 2) (hdg : 0 < dg ∧ dg ≤ 18) (U : Int) (hU : u * 10 ^ (sc - s).toNat = U) :
    Pure w 6 359 [v, .ref T] h (fun v new => ∃ T t3, v = .ref T ∧ new = [(T, tupObj [.str (St (figsOf dg.toNat (U.natAbs % 10 ^ dg.toNat))) t3, .bool (decide (U < 0 ∧ 0 < U.natAbs % 10 ^ dg.toNat))])]) := by
  obtain ⟨P, D, l, cat, sg, k0, k1, k2, k3, k4, k5, k6, t0, t2, t3, t4, t6, rfl, hP1, hP2, -⟩ := hP
  refine Pure.enter (by k_is) (by k_is) (by exact rfl) (by exact locs rfl) (by decide) ?_ (by exact rfl) (by exact rfl) (by exact rfl) (by decide)
  intro mean mg mb dp un gd outer A₀ base hp₁ gs₁ dr₁ tk₁ os₁ L' Q mF AF EF F' N' B' X' T' hdp hun' hret
  ktr_unf
  k_steps
  refine ⟨?_⟩
  refine' Pure.use (c_units _ _ T u s sc _ _ _ (isTup_stays (fun b o e => Fr.keep (by k_asm) b o e) hT) hs) ?k1 ?k2 ?k3 ?k4 ?k5 rfl (by omega) (by omega) ?_
  case k1 => k_asm
  case k2 => k_asm
  case k3 => k_asm
  case k4 => k_asm
  case k5 => k_asm
  intro v9 new9 h9 tk9 F9 N9 D9 P9
  obtain ⟨rfl, t9, e9⟩ := P9
  rw [hU] at e9
  subst e9
  simp only [List.nil_append] at N9
  (try dsimp only); (try k_fold)
  clear D9
  k_steps
  refine ⟨?_⟩
  rename Fr _ _ _ _ => FF
  dsimp +zetaDelta only at FF
  rw [abs_mod] at FF
  generalize hN : U.natAbs % 10 ^ dg.toNat = n at FF
  have hn18 : n < 10 ^ 18 := by
    rw [← hN]
    exact Nat.lt_of_lt_of_le (Nat.mod_lt _ (Nat.pow_pos (by decide))) (pow_le18 (by omega))
  have hneg : (U < 0 ∧ 0 < n) ↔ (u < 0 ∧ 0 < n) := by
    have h10 : (0 : Int) < 10 ^ (sc - s).toNat := Int.pow_pos (by decide)
    have : U < 0 ↔ u < 0 := by
      rw [← hU]
      constructor
      · intro h; rcases Int.lt_or_le u 0 with h' | h'
        · exact h'
        · have := Int.mul_nonneg h' (Int.le_of_lt h10); omega
      · intro h; exact Int.mul_neg_of_neg_of_pos h h10
    rw [this]
  have hdl : (digs n).length ≤ 18 := digs_len 18 n hn18 (by decide)
  have hL : (St (digs n)).length = (digs n).length := st_length _
  have hL0 : (Str.ofString "").length = 0 := by decide
  k_steps
  · refine ⟨?_⟩
    refine str_T (Nat.lt_trans hn18 (by decide)) ?_
    k_steps
    refine ⟨?_⟩
    refine mul_T lit_0 (by omega) (by omega) ?_
    intro t' k'
    k_steps
    all_goals (
      refine hret _ _ _ _ _ (by k_asm) (by k_asm) ⟨_, _, rfl, figs_eq ?_ ?_⟩
      · rw [hN, st_append, figsOf, if_neg (by omega), hL]
        congr 3
        omega
      · rw [hN, Bool.eq_iff_iff]
        simp only [decide_eq_true_eq, Bool.false_eq_true, hneg]
        omega)
  · refine ⟨?_⟩
    refine mul_T lit_0 (by omega) (by omega) ?_
    intro t' k'
    k_steps
    all_goals (
      refine hret _ _ _ _ _ (by k_asm) (by k_asm) ⟨_, _, rfl, figs_eq ?_ ?_⟩
      · rw [hN, lit_none, st_append, figsOf, if_pos (by omega)]
        congr 3
        simp only [List.length_nil]; omega
      · rw [hN, Bool.eq_iff_iff]
        simp only [decide_eq_true_eq, Bool.false_eq_true, hneg]
        omega)
end
end C_s10_part
section C_s11_part
local macro_rules | `(tactic| walk_at "no key 0") => `(tactic| fail)
set_option maxRecDepth 100000
set_option maxHeartbeats 300000
set_option rowWalk.seconds 0
theorem init_C_s11 : (PySem.Challenge.rw_pb0263_01.Holds → True) ∧ (Mine.hd.heap_1 = Mine.hd.heap_1) := by
  k_fill; exact ⟨fun _ => trivial, rfl⟩
noncomputable def signTxt (c : Nat) (neg : Bool) : Nat := if c = 43 then (if neg then 45 else 43) else if c = 45 then (if neg then 45 else 32) else c
section
theorem c_signtext (w : World) (h : Heap) (c : Nat) (neg : Bool) (t1 : Tok) : Pure w 4 366 [.str (St [c]) t1, .bool neg] h (fun v new => new = [] ∧ ∃ t, v = .str (St [signTxt c neg]) t) := by
  refine Pure.enter (by k_is) (by k_is) (by exact rfl) (by exact locs rfl) (by decide) ?_ (by exact rfl) (by exact rfl) (by exact rfl) (by decide)
  intro mean mg mb dp un gd outer A₀ base hp₁ gs₁ dr₁ tk₁ os₁ L' Q mF AF EF F' N' B' X' T' hdp hun' hret
  ktr_unf
  k_steps
  all_goals try (
    refine hret _ [] _ _ _ (by k_asm) (fun _ hp => nomatch hp) ⟨rfl, _, congrArg (Value.str · _) ?_⟩)
  · rename ((_ == _) = true) => e1
    rename (neg = _) => e2
    subst e2
    rw [lit_plus, st_beq, beq_iff_eq] at e1
    injection e1 with e1
    subst e1
    exact lit_minus
  · rename ((_ == _) = true) => e1
    rename (neg = _) => e2
    subst e2
    rw [lit_plus, st_beq, beq_iff_eq] at e1
    injection e1 with e1
    subst e1
    exact lit_plus
  · rename ((_ == _) = true) => e1
    rename (neg = _) => e2
    subst e2
    rw [lit_minus, st_beq, beq_iff_eq] at e1
    injection e1 with e1
    subst e1
    exact lit_minus
  · rename ((_ == _) = true) => e1
    rename (neg = _) => e2
    subst e2
    rw [lit_minus, st_beq, beq_iff_eq] at e1
    injection e1 with e1
    subst e1
    exact lit_blank
  · exfalso
    rename (List.any _ _ = true) => hany
    rw [lit_CR, lit_DB] at hany
    simp only [List.any_cons, List.any_nil, st_beq, Bool.or_eq_true, beq_iff_eq, List.cons.injEq, Bool.or_false, reduceCtorEq, and_false, or_self] at hany
  · exfalso
    rename (List.any _ _ = true) => hany
    rw [lit_CR, lit_DB] at hany
    simp only [List.any_cons, List.any_nil, st_beq, Bool.or_eq_true, beq_iff_eq, List.cons.injEq, Bool.or_false, reduceCtorEq, and_false, or_self] at hany
  · rename (List.any _ _ = false) => hany
    clear hany
    rename ((_ == _) = false) => e1
    rw [lit_minus, st_beq, beq_eq_false_iff_ne] at e1
    have h45 : c ≠ 45 := fun h => e1 (by rw [h])
    clear e1
    rename ((_ == _) = false) => e1
    rw [lit_plus, st_beq, beq_eq_false_iff_ne] at e1
    have h43 : c ≠ 43 := fun h => e1 (by rw [h])
    rw [signTxt, if_neg h43, if_neg h45]
theorem c_instext (w : World) (h : Heap) (c : Nat) (t1 : Tok) (hc : c ∈ AL) : Pure w 4 373 [.str (St [c]) t1] h (fun v new => new = [] ∧ ∃ t, v = .str (St [c]) t) := by
  refine Pure.enter (by k_is) (by k_is) (by exact rfl) (by exact locs rfl) (by decide) ?_ (by exact rfl) (by exact rfl) (by exact rfl) (by decide)
  intro mean mg mb dp un gd outer A₀ base hp₁ gs₁ dr₁ tk₁ os₁ L' Q mF AF EF F' N' B' X' T' hdp hun' hret
  ktr_unf
  k_steps
  · exfalso
    rename ((_ == _) = true) => e1
    have : (Str.ofString "B") = St [66] := by decide +kernel
    rw [this, st_beq, beq_iff_eq] at e1
    injection e1 with e1
    subst e1
    exact absurd hc (by decide)
  · exact hret _ [] _ _ _ (by k_asm) (fun _ hp => nomatch hp) ⟨rfl, _, rfl⟩
theorem c_supp (w : World) (h : Heap) (r : List Nat) (t1 : Tok) : Pure w 4 352 [.str (St r) t1] h (fun v new => new = [] ∧ v = .bool (decide (r ∈ [rl "zero", rl "star", rl "float"]))) := by
  refine Pure.enter (by k_is) (by k_is) (by exact rfl) (by exact locs rfl) (by decide) ?_ (by exact rfl) (by exact rfl) (by exact rfl) (by decide)
  intro mean mg mb dp un gd outer A₀ base hp₁ gs₁ dr₁ tk₁ os₁ L' Q mF AF EF F' N' B' X' T' hdp hun' hret
  ktr_unf
  k_steps
  refine hret _ [] _ _ _ (by k_asm) (fun _ hp => nomatch hp) ⟨rfl, congrArg Value.bool ?_⟩
  rw [← any_T, List.map_cons, List.map_cons, List.map_cons, List.map_nil, St_rl, St_rl, St_rl]
end
end C_s11_part
section C_s12_part
local macro_rules | `(tactic| walk_at "no key 0") => `(tactic| fail)
local macro_rules | `(tactic| walk_at "no key 1") => `(tactic| fail)
set_option maxRecDepth 100000
set_option maxHeartbeats 300000
set_option rowWalk.seconds 0
theorem init_C_s12 : (PySem.Challenge.rw_pb0263_01.Holds → True) ∧ (Mine.hd.heap_1 = Mine.hd.heap_1) := by
  k_fill; exact ⟨fun _ => trivial, rfl⟩
theorem item_T {prog : Program} {w : World} {A : Around} {E : Value → Shared → Prop} {s : Shared} {value slice : PySem.Expr} {x : List Nat} {t u : Tok} {i : Nat} {Q : Value → Shared → Prop} (hi : i < x.length) (hn : x.length ≤ 1000) (h : Q (.str (St [x.getD i 0]) s.toks) { s with toks := s.toks + 1 })
    (hs : subscripted slice false (.str (St x) t) (.int i u) = operate [.str (St x) t, .int i u] (getItem (.str (St x) t) (.int i u)) := by with_unfolding_all rfl)
    (ht : ∀ r, letTemporaryGo value (.str (St x) t) r = pure () := by intro _; with_unfolding_all rfl) :
    wpAny (model prog w) A (subscriptTail value slice (.str (St x) t) (.int i u)) Q E s :=
  KXi.item (n := x.length) (st_length x) (by omega) (by omega) (by omega) (fun _ => by rw [item_St x i hi]; exact h) hs ht
structure LS where
  next : Nat := 0
  found : List (List Nat) := []
  cnt : Bool := false
  beg : Bool := false
  spot : Int := -1
/-- a Layer's dict; the tokens are a function's values -/
noncomputable def layEs (w : World) (T : Nat → Tok) (figs : List Nat) (neg : Bool) (f : Nat) (l : Addr) (nx : Int) (b1 b2 : Bool) (sp : Int) : List DictEntry := [
    ⟨PyData.keyHash w.params (Str.ofString "figures"), .str (Str.ofString "figures") (T 0), .str (St figs) (T 8)⟩,
    ⟨PyData.keyHash w.params (Str.ofString "is_negative"), .str (Str.ofString "is_negative") (T 1), .bool neg⟩,
    ⟨PyData.keyHash w.params (Str.ofString "fill"), .str (Str.ofString "fill") (T 2), .str (St [f]) (T 9)⟩,
    ⟨PyData.keyHash w.params (Str.ofString "next"), .str (Str.ofString "next") (T 3), .int nx (T 10)⟩,
    ⟨PyData.keyHash w.params (Str.ofString "found"), .str (Str.ofString "found") (T 4), .ref l⟩,
    ⟨PyData.keyHash w.params (Str.ofString "is_counting"), .str (Str.ofString "is_counting") (T 5), .bool b1⟩,
    ⟨PyData.keyHash w.params (Str.ofString "is_begun"), .str (Str.ofString "is_begun") (T 6), .bool b2⟩,
    ⟨PyData.keyHash w.params (Str.ofString "spot"), .str (Str.ofString "spot") (T 7), .int sp (T 11)⟩]
inductive LayRel (w : World) (figs : List Nat) (neg : Bool) (f : Nat) (l : Addr) (s : LS) (es : List DictEntry) : Prop
  | mk (T : Nat → Tok) (e : es = layEs w T figs neg f l s.next s.cnt s.beg s.spot)
/-- a Layer's ledger -/
noncomputable def LayLed (w : World) (figs : List Nat) (neg : Bool) (f : Nat) (x d l : Addr) (s : LS) (led : List (Addr × Obj)) : Prop :=
  ∃ es js n, LayRel w figs neg f l s es ∧ TxtsAre js.toList s.found ∧ led = [(x, instObj 411 d), (d, dictOf es 8), (l, listOf js n)]
theorem layRel_of {w : World} {figs : List Nat} {neg : Bool} {f : Nat} {l : Addr} {s : LS} {k0 k1 k2 k3 k4 k5 k6 k7 t0 t1 t2 t3 : Tok} {nx sp : Int} {b1 b2 : Bool} (h1 : nx = s.next) (h2 : b1 = s.cnt) (h3 : b2 = s.beg) (h4 : sp = s.spot) :
    LayRel w figs neg f l s [
    ⟨PyData.keyHash w.params (Str.ofString "figures"), .str (Str.ofString "figures") k0, .str (St figs) t0⟩,
    ⟨PyData.keyHash w.params (Str.ofString "is_negative"), .str (Str.ofString "is_negative") k1, .bool neg⟩,
    ⟨PyData.keyHash w.params (Str.ofString "fill"), .str (Str.ofString "fill") k2, .str (St [f]) t1⟩,
    ⟨PyData.keyHash w.params (Str.ofString "next"), .str (Str.ofString "next") k3, .int nx t2⟩,
    ⟨PyData.keyHash w.params (Str.ofString "found"), .str (Str.ofString "found") k4, .ref l⟩,
    ⟨PyData.keyHash w.params (Str.ofString "is_counting"), .str (Str.ofString "is_counting") k5, .bool b1⟩,
    ⟨PyData.keyHash w.params (Str.ofString "is_begun"), .str (Str.ofString "is_begun") k6, .bool b2⟩,
    ⟨PyData.keyHash w.params (Str.ofString "spot"), .str (Str.ofString "spot") k7, .int sp t3⟩] := by
  subst h1 h2 h3 h4
  exact ⟨fun i => [k0, k1, k2, k3, k4, k5, k6, k7, t0, t1, t2, t3].getD i 0, rfl⟩
theorem layRel_mk {w : World} {figs : List Nat} {neg : Bool} {f : Nat} {l : Addr} {s : LS} {T : Nat → Tok} {nx sp : Int} {b1 b2 : Bool} (h1 : nx = s.next) (h2 : b1 = s.cnt) (h3 : b2 = s.beg) (h4 : sp = s.spot) : LayRel w figs neg f l s (layEs w T figs neg f l nx b1 b2 sp) := by
  subst h1 h2 h3 h4
  exact ⟨_, rfl⟩
inductive LPut (w : World) : Str → Value → List DictEntry → ((Nat → Tok) → List DictEntry) → Prop
  | next (T : Nat → Tok) (figs : List Nat) (neg : Bool) (f : Nat) (l : Addr) (nx : Int) (b1 b2 : Bool) (sp : Int) (i : Int) (t : Tok) : LPut w (Str.ofString "next") (.int i t) (layEs w T figs neg f l nx b1 b2 sp) (fun T => layEs w T figs neg f l i b1 b2 sp)
  | cnt (T : Nat → Tok) (figs : List Nat) (neg : Bool) (f : Nat) (l : Addr) (nx : Int) (b1 b2 : Bool) (sp : Int) (b : Bool) : LPut w (Str.ofString "is_counting") (.bool b) (layEs w T figs neg f l nx b1 b2 sp) (fun T => layEs w T figs neg f l nx b b2 sp)
  | beg (T : Nat → Tok) (figs : List Nat) (neg : Bool) (f : Nat) (l : Addr) (nx : Int) (b1 b2 : Bool) (sp : Int) (b : Bool) : LPut w (Str.ofString "is_begun") (.bool b) (layEs w T figs neg f l nx b1 b2 sp) (fun T => layEs w T figs neg f l nx b1 b sp)
  | spot (T : Nat → Tok) (figs : List Nat) (neg : Bool) (f : Nat) (l : Addr) (nx : Int) (b1 b2 : Bool) (sp : Int) (i : Int) (t : Tok) : LPut w (Str.ofString "spot") (.int i t) (layEs w T figs neg f l nx b1 b2 sp) (fun T => layEs w T figs neg f l nx b1 b2 i)
theorem LPut.put {w : World} {name : Str} {v : Value} {es : List DictEntry} {es' : (Nat → Tok) → List DictEntry} (P : LPut w name v es es') (H : Int) (K : Value) : (getL name es).isSome = true ∧ ∃ T, (putL name H K v es, putN name es 8) = (es' T, 8) := by
  cases P
  case next T _ _ _ _ _ _ _ _ _ t => exact ⟨rfl, fun j => if j = 10 then t else T j, rfl⟩
  case cnt T _ _ _ _ _ _ _ _ _ => exact ⟨rfl, T, rfl⟩
  case beg T _ _ _ _ _ _ _ _ _ => exact ⟨rfl, T, rfl⟩
  case spot T _ _ _ _ _ _ _ _ _ t => exact ⟨rfl, fun j => if j = 11 then t else T j, rfl⟩
theorem LPut.len {w : World} {name : Str} {v : Value} {es : List DictEntry} {es' : (Nat → Tok) → List DictEntry} (P : LPut w name v es es') (T : Nat → Tok) : (es' T).length ≤ 1000 := by
  cases P <;> exact Nat.le_of_ble_eq_true rfl
theorem lay_set {prog : Program} {w : World} {A : Around} {E : Value → Shared → Prop} {s : Shared} {h₀ : Heap} {L x C dx : Addr} {ox : Obj} {m : Str → Option Value} {K : Frag} {name : Str} {v : Value} {es : List DictEntry} {es' : (Nat → Tok) → List DictEntry} {news : List (Addr × Obj)} {news' : (Nat → Tok) → List (Addr × Obj)} {Q : Unit → Shared → Prop}
    (P : LPut w name v es es') (F : Fr h₀ L s.heap m) (X₀ : K.In h₀) (N : News h₀ L s.heap news) (I : InstAt s.heap x ox C (some (dictOf es 8))) (hd : ox.dict = some dx)
    (hs : findIn K (.ref C) "__setattr__" = some (some (.builtin "object.__setattr__"))) (hp : plainOver K C = true) (ht : takerIn K C name = some none) (hh : hasDictIn K C = true)
    (U : ∀ T, Upd dx (dictOf es 8) (dictOf (es' T) 8) news (news' T)) (h : ∀ T h', Fr h₀ L h' m → News h₀ L h' (news' T) → Q () { s with heap := h', toks := s.toks + 2 }) :
    wpAny (model prog w) A (setAttr (.ref x) name v) Q E s := by
  obtain ⟨hl, T, e⟩ := P.put (PyData.keyHash w.params name) (.str name (s.toks + 1))
  exact set_dict F X₀ N I hd hs hp ht hh hl e (U T) (P.len T) (h T)
noncomputable def LS.suppress (f : Nat) (s : LS) : LS := { s with spot := s.found.length, found := s.found ++ [[f]] }
section
local macro_rules | `(tactic| walk_at "setAttr ref") => `(tactic| (k_here; k_dflt (refine' lay_set ?P ?k1 ?k2 ?k3 ?k4 ?k5 ?k6 ?k7 ?k8 ?k9 ?k12 ?_; (case k1 => k_asm); (case k2 => k_asm); (case k3 => k_asm); (case k4 => k_inst); (case P => with_reducible constructor); (case k5 => exact rfl); (case k6 => k_is); (case k7 => k_is); (case k8 => k_is); (case k9 => k_is); (case k12 => (intro T'; k_upd)); k_whole; intro T' h' F' N'; (try dsimp only at N'); (try k_sweep))))
theorem m_suppress (w : World) (figs : List Nat) (neg : Bool) (f : Nat) (x d l : Addr) (s : LS) (led : List (Addr × Obj)) (hne : @Ne Nat x d ∧ @Ne Nat x l ∧ @Ne Nat d l) (hs : s.found.length ≤ 60) (hL : LayLed w figs neg f x d l s led) :
    Mut w 4 394 [.ref x] led (fun _ => True) (fun v new => v = .none ∧ LayLed w figs neg f x d l (s.suppress f) new) := by
  obtain ⟨es, js, n, ⟨TT, rfl⟩, hY, rfl⟩ := hL
  have hsz := hY.length
  rw [Array.length_toList] at hsz
  obtain ⟨hxd, hxl, hdl⟩ := hne
  refine Mut.enter (by k_is) (by k_is) (by exact rfl) (by exact locs rfl) (by decide) ?_ (by exact rfl) (by exact rfl) (by exact rfl) (by decide)
  intro mean mg mb dp un gd outer A₀ base g hp₁ gs₁ dr₁ tk₁ os₁ L' Q mF AF EF F' N' P' B' X' T' hdp hun hret
  ktr_unf
  k_steps
  rename News _ _ _ ((_, instObj 411 _) :: _) => NN
  refine hret _ _ _ _ _ (by k_asm) NN ⟨rfl, _, _, _, layRel_mk ?_ ?_ ?_ ?_, ?_, rfl⟩
  · exact rfl
  · exact rfl
  · exact rfl
  · show _ = (s.found.length : Int)
    rw [← hsz]
  · rw [Array.toList_push]
    exact hY.snoc [f] _
noncomputable def LS.supp (r : List Nat) : Bool := decide (r ∈ [rl "zero", rl "star", rl "float"])
noncomputable def LS.fig (figs : List Nat) (f : Nat) (r : List Nat) (s : LS) : LS :=
  let c := figs.getD s.next 0
  let s1 : LS := { s with next := s.next + 1, beg := s.beg || LS.supp r, cnt := s.cnt || (decide (r = rl "figure") || !decide (c = 48)) }
  if s1.cnt then { s1 with found := s1.found ++ [[c]] } else s1.suppress f
theorem fig_next (figs : List Nat) (f : Nat) (r : List Nat) (s : LS) : (s.fig figs f r).next = s.next + 1 := by unfold LS.fig; dsimp only; split <;> rfl
theorem fig_cnt (figs : List Nat) (f : Nat) (r : List Nat) (s : LS) : (s.fig figs f r).cnt = (s.cnt || (decide (r = rl "figure") || !decide (figs.getD s.next 0 = 48))) := by unfold LS.fig; dsimp only; split <;> rfl
theorem fig_beg (figs : List Nat) (f : Nat) (r : List Nat) (s : LS) : (s.fig figs f r).beg = (s.beg || LS.supp r) := by unfold LS.fig; dsimp only; split <;> rfl
theorem fig_on {figs : List Nat} {f : Nat} {r : List Nat} {s : LS} (h : (s.cnt || (decide (r = rl "figure") || !decide (figs.getD s.next 0 = 48))) = true) : (s.fig figs f r).spot = s.spot ∧ (s.fig figs f r).found = s.found ++ [[figs.getD s.next 0]] := by
  unfold LS.fig; dsimp only; rw [if_pos h]; exact ⟨rfl, rfl⟩
theorem fig_off {figs : List Nat} {f : Nat} {r : List Nat} {s : LS} (h : (s.cnt || (decide (r = rl "figure") || !decide (figs.getD s.next 0 = 48))) = false) : s.fig figs f r = ({ s with next := s.next + 1, beg := s.beg || LS.supp r, cnt := false } : LS).suppress f := by
  unfold LS.fig; dsimp only; rw [if_neg (by rw [h]; decide), h]
local macro_rules | `(tactic| walk_at "call ref") => `(tactic| (k_here; refine Held.out ?_))
local macro_rules | `(tactic| walk_at "subscriptTail Name Attribute str int") => `(tactic| (k_here; (refine' item_T ?h1 ?h2 ?_; (case h1 => omega); (case h2 => omega))))
theorem m_figure (w : World) (figs : List Nat) (neg : Bool) (f : Nat) (x d l : Addr) (s : LS) (led : List (Addr × Obj)) (r : List Nat) (t : Tok) (hne : @Ne Nat x d ∧ @Ne Nat x l ∧ @Ne Nat d l) (hs : s.found.length ≤ 60) (hL : LayLed w figs neg f x d l s led)
    (hn : s.next < figs.length) (hf : figs.length ≤ 18) :
    Mut w 8 401 [.ref x, .str (St r) t] led (fun _ => True) (fun v new => v = .none ∧ LayLed w figs neg f x d l (s.fig figs f r) new) := by
  obtain ⟨es, js, n, ⟨TT, rfl⟩, hY, rfl⟩ := hL
  have hsz := hY.length
  rw [Array.length_toList] at hsz
  obtain ⟨hxd, hxl, hdl⟩ := hne
  have hlen : (St figs).length = figs.length := st_length _
  have ef : (St r == Str.ofString "figure") = decide (r = rl "figure") := by
    rw [← St_rl, st_beq, Bool.eq_iff_iff, beq_iff_eq, decide_eq_true_eq]
  have e0 : (St [figs.getD s.next 0] != Str.ofString "0") = !decide (figs.getD s.next 0 = 48) := by
    rw [lit_0, bne, st_beq]
    congr 1
    rw [Bool.eq_iff_iff, beq_iff_eq, decide_eq_true_eq, List.cons.injEq, and_iff_left rfl]
  refine Mut.enter (by k_is) (by k_is) (by exact rfl) (by exact locs rfl) (by decide) ?_ (by exact rfl) (by exact rfl) (by exact rfl) (by decide)
  intro mean mg mb dp un gd outer A₀ base g hp₁ gs₁ dr₁ tk₁ os₁ L' Q mF AF EF F' N' P' B' X' T' hdp hun hret
  ktr_unf
  k_steps
  all_goals (try (refine ⟨?_⟩; (with_reducible show wpAny _ _ (call (Value.ref 352) _) _ _ _); refine' Pure.use (c_supp _ _ _ _) ?k1 ?k2 ?k3 ?k4 ?k5 ?kK ?kd ?ku ?_; (case k1 => k_asm); (case k2 => k_asm); (case k3 => k_asm); (case k4 => k_asm); (case k5 => k_asm); (case kK => exact rfl); (case kd => omega); (case ku => omega); intro v9 new9 h9 tk9 F9 N9 D9 P9; obtain ⟨q9, e9⟩ := P9; subst e9 q9; clear D9; simp only [List.nil_append] at N9; (try dsimp only); (try k_fold); k_steps))
  all_goals (rename (s.beg = _) => hb; rename (s.cnt = _) => hc)
  all_goals first
  | (rename News _ _ _ ((_, instObj 411 _) :: _) => NN
     have hon : (s.cnt || (decide (r = rl "figure") || !decide (figs.getD s.next 0 = 48))) = true := by
      rw [← ef, ← e0]
      first
        | rw [hc, Bool.true_or]
        | (rename ((St r == _) = true) => h1; rw [h1, Bool.true_or, Bool.or_true])
        | (rename ((_ != _) = true) => h2; rw [h2, Bool.or_true, Bool.or_true])
     refine hret _ _ _ _ _ (by k_asm) NN ⟨rfl, _, _, _, layRel_mk ?_ ?_ ?_ ?_, ?_, rfl⟩
     · rw [fig_next]; omega
     · rw [fig_cnt, hon]; first | exact hc | assumption
     · rw [fig_beg, hb]; first | rw [Bool.true_or] | (rw [Bool.false_or]; rfl)
     · rw [(fig_on hon).1]
     · rw [(fig_on hon).2, Array.toList_push]
       exact hY.snoc _ _)
  | (rename ((_ != _) = false) => h2
     rename ((St r == _) = false) => h1
     have hoff : (s.cnt || (decide (r = rl "figure") || !decide (figs.getD s.next 0 = 48))) = false := by
      rw [← ef, ← e0, hc, h1, h2]; rfl
     refine ⟨?_⟩
     dsimp only [List.append_nil]
     rename News _ _ _ ((_, instObj 411 _) :: _) => NN
     refine' Mut.use (d := 4) (tl := []) (Pre := fun _ => True) (Post := fun v new => v = .none ∧ LayLed w figs neg f x d l (LS.suppress f { s with next := s.next + 1, beg := s.beg || LS.supp r, cnt := false }) new) ?C ?k1 ?k2 ?k3 NN ?k5 rfl (by omega) (by omega) (fun p hp => hp) (fun p hp => nomatch hp) (fun p hp q hq => nomatch hq) (fun _ _ _ => trivial) ?ret
     case C =>
       refine m_suppress w figs neg f x d l { s with next := s.next + 1, beg := s.beg || LS.supp r, cnt := false } _ ⟨hxd, hxl, hdl⟩ hs ⟨_, _, _, layRel_mk ?_ ?_ ?_ ?_, hY, rfl⟩
       · show _ = ((s.next + 1 : Nat) : Int)
         omega
       · show _ = false
         assumption
       · show _ = (s.beg || LS.supp r)
         rw [hb]
         first | rw [Bool.true_or] | (rw [Bool.false_or]; rfl)
       · exact rfl
     case k1 => k_asm
     case k2 => k_asm
     case k3 => k_asm
     case k5 => k_asm
     case ret =>
       intro v9 new9 h9 tk9 F9 N9 D9 P9
       obtain ⟨rfl, P9⟩ := P9
       simp only [List.append_nil] at N9
       (try dsimp only); (try k_fold)
       clear D9
       k_steps
       refine hret _ _ _ _ _ F9 N9 ⟨rfl, ?_⟩
       rw [fig_off hoff]
       exact P9)
end
end C_s12_part
section C_s13_part
local macro_rules | `(tactic| walk_at "no key 0") => `(tactic| fail)
local macro_rules | `(tactic| walk_at "no key 1") => `(tactic| fail)
local macro_rules | `(tactic| walk_at "no key 2") => `(tactic| fail)
local macro_rules | `(tactic| walk_at "no key 3") => `(tactic| fail)
set_option maxRecDepth 100000
set_option maxHeartbeats 300000
set_option rowWalk.seconds 0
theorem init_C_s13 : (PySem.Challenge.rw_pb0263_01.Holds → True) ∧ (Mine.hd.heap_1 = Mine.hd.heap_1) := by
  k_fill; exact ⟨fun _ => trivial, rfl⟩
theorem lay_news {h₀ h : Heap} {L x d l : Addr} {es : List DictEntry} {o : Obj} (N : News h₀ L h [(x, instObj 411 d), (d, dictOf es 8), (l, o)]) : News h₀ L h [(x, instObj 411 d), (d, dictOf es 8), (l, o)] := N
noncomputable def ROLES : List (List Nat) := [rl "figure", rl "zero", rl "star", rl "float", rl "lead", rl "insert", rl "fixed", rl "point"]
noncomputable def LS.place (figs : List Nat) (neg : Bool) (f : Nat) (r : List Nat) (c : Nat) (s : LS) : LS :=
  if r = rl "figure" ∨ LS.supp r = true then s.fig figs f r
  else if r = rl "lead" then LS.suppress f { s with beg := true }
  else if r = rl "insert" then (if s.beg = true ∧ s.cnt = false then s.suppress f else { s with found := s.found ++ [[c]] })
  else if r = rl "fixed" then { s with found := s.found ++ [[signTxt c neg]] }
  else { s with cnt := true, found := s.found ++ [[c]] }
section
local macro_rules | `(tactic| walk_at "setAttr ref") => `(tactic| (k_here; k_dflt (refine' lay_set ?P ?k1 ?k2 ?k3 ?k4 ?k5 ?k6 ?k7 ?k8 ?k9 ?k12 ?_; (case k1 => k_asm); (case k2 => k_asm); (case k3 => k_asm); (case k4 => k_inst); (case P => with_reducible constructor); (case k5 => exact rfl); (case k6 => k_is); (case k7 => k_is); (case k8 => k_is); (case k9 => k_is); (case k12 => (intro T'; k_upd)); k_whole; intro T' h' F' N'; (try dsimp only at N'); (try k_sweep))))
local macro_rules | `(tactic| walk_at "call ref") => `(tactic| (k_here; (fail_if_success with_reducible show wpAny _ _ (call (Value.ref 352) _) _ _ _); refine Held.out ?_))
theorem m_place (w : World) (figs : List Nat) (neg : Bool) (f : Nat) (x d l : Addr) (s : LS) (led : List (Addr × Obj)) (r : List Nat) (c : Nat) (t t' : Tok) (hne : @Ne Nat x d ∧ @Ne Nat x l ∧ @Ne Nat d l) (hs : s.found.length ≤ 60) (hL : LayLed w figs neg f x d l s led)
    (hr : r ∈ ROLES) (hn : r = rl "figure" ∨ LS.supp r = true → s.next < figs.length) (hf : figs.length ≤ 18) (hc : c ∈ AL) :
    Mut w 12 408 [.ref x, .str (St r) t, .str (St [c]) t'] led (fun _ => True) (fun v new => v = .none ∧ LayLed w figs neg f x d l (s.place figs neg f r c) new) := by
  obtain ⟨es, js, n, ⟨TT, rfl⟩, hY, rfl⟩ := hL
  have hsz := hY.length
  rw [Array.length_toList] at hsz
  obtain ⟨hxd, hxl, hdl⟩ := hne
  simp only [ROLES, List.mem_cons, List.not_mem_nil, or_false] at hr
  rcases hr with rfl | rfl | rfl | rfl | rfl | rfl | rfl | rfl
  all_goals rw [St_rl]
  all_goals (
    refine Mut.enter (by k_is) (by k_is) (by exact rfl) (by exact locs rfl) (by decide) ?_ (by exact rfl) (by exact rfl) (by exact rfl) (by decide)
    intro mean mg mb dp un gd outer A₀ base g hp₁ gs₁ dr₁ tk₁ os₁ L' Q mF AF EF F' N' P' B' X' T' hdp hun hret
    ktr_unf
    k_steps)
  · refine ⟨?_⟩
    rename News _ _ _ _ => NN
    first | replace NN := lay_news NN | replace NN := lay_news (ord_drop NN) | replace NN := lay_news (ord_drop (ord_drop NN))
    refine' Mut.use (d := 8) (tl := []) (Pre := fun _ => True) (Post := fun v new => v = .none ∧ LayLed w figs neg f x d l (s.fig figs f (rl "figure")) new) ?C ?k1 ?k2 ?k3 NN ?k5 rfl (by omega) (by omega) (fun p hp => hp) (fun p hp => nomatch hp) (fun p hp q hq => nomatch hq) (fun _ _ _ => trivial) ?ret
    case C =>
      rw [← St_rl]
      exact m_figure w figs neg f x d l s _ (rl "figure") _ ⟨hxd, hxl, hdl⟩ hs ⟨_, _, _, layRel_mk rfl rfl rfl rfl, hY, rfl⟩ (hn (.inl rfl)) hf
    case k1 => k_asm
    case k2 => k_asm
    case k3 => k_asm
    case k5 => k_asm
    case ret =>
      intro v9 new9 h9 tk9 F9 N9 D9 P9
      obtain ⟨rfl, P9⟩ := P9
      simp only [List.append_nil] at N9
      (try dsimp only); (try k_fold)
      clear D9
      k_steps
      refine hret _ _ _ _ _ F9 N9 ⟨rfl, ?_⟩
      rw [LS.place, if_pos (.inl rfl)]
      exact P9
  · refine ⟨?_⟩
    rename News _ _ _ _ => NN
    first | replace NN := lay_news NN | replace NN := lay_news (ord_drop NN) | replace NN := lay_news (ord_drop (ord_drop NN))
    refine' Mut.use (d := 8) (tl := []) (Pre := fun _ => True) (Post := fun v new => v = .none ∧ LayLed w figs neg f x d l (s.fig figs f (rl "zero")) new) ?C ?k1 ?k2 ?k3 NN ?k5 rfl (by omega) (by omega) (fun p hp => hp) (fun p hp => nomatch hp) (fun p hp q hq => nomatch hq) (fun _ _ _ => trivial) ?ret
    case C =>
      rw [← St_rl]
      exact m_figure w figs neg f x d l s _ (rl "zero") _ ⟨hxd, hxl, hdl⟩ hs ⟨_, _, _, layRel_mk rfl rfl rfl rfl, hY, rfl⟩ (hn (.inr (by decide +kernel))) hf
    case k1 => k_asm
    case k2 => k_asm
    case k3 => k_asm
    case k5 => k_asm
    case ret =>
      intro v9 new9 h9 tk9 F9 N9 D9 P9
      obtain ⟨rfl, P9⟩ := P9
      simp only [List.append_nil] at N9
      (try dsimp only); (try k_fold)
      clear D9
      k_steps
      refine hret _ _ _ _ _ F9 N9 ⟨rfl, ?_⟩
      rw [LS.place, if_pos (.inr (by decide +kernel))]
      exact P9
  · refine ⟨?_⟩
    rename News _ _ _ _ => NN
    first | replace NN := lay_news NN | replace NN := lay_news (ord_drop NN) | replace NN := lay_news (ord_drop (ord_drop NN))
    refine' Mut.use (d := 8) (tl := []) (Pre := fun _ => True) (Post := fun v new => v = .none ∧ LayLed w figs neg f x d l (s.fig figs f (rl "star")) new) ?C ?k1 ?k2 ?k3 NN ?k5 rfl (by omega) (by omega) (fun p hp => hp) (fun p hp => nomatch hp) (fun p hp q hq => nomatch hq) (fun _ _ _ => trivial) ?ret
    case C =>
      rw [← St_rl]
      exact m_figure w figs neg f x d l s _ (rl "star") _ ⟨hxd, hxl, hdl⟩ hs ⟨_, _, _, layRel_mk rfl rfl rfl rfl, hY, rfl⟩ (hn (.inr (by decide +kernel))) hf
    case k1 => k_asm
    case k2 => k_asm
    case k3 => k_asm
    case k5 => k_asm
    case ret =>
      intro v9 new9 h9 tk9 F9 N9 D9 P9
      obtain ⟨rfl, P9⟩ := P9
      simp only [List.append_nil] at N9
      (try dsimp only); (try k_fold)
      clear D9
      k_steps
      refine hret _ _ _ _ _ F9 N9 ⟨rfl, ?_⟩
      rw [LS.place, if_pos (.inr (by decide +kernel))]
      exact P9
  · refine ⟨?_⟩
    rename News _ _ _ _ => NN
    first | replace NN := lay_news NN | replace NN := lay_news (ord_drop NN) | replace NN := lay_news (ord_drop (ord_drop NN))
    refine' Mut.use (d := 8) (tl := []) (Pre := fun _ => True) (Post := fun v new => v = .none ∧ LayLed w figs neg f x d l (s.fig figs f (rl "float")) new) ?C ?k1 ?k2 ?k3 NN ?k5 rfl (by omega) (by omega) (fun p hp => hp) (fun p hp => nomatch hp) (fun p hp q hq => nomatch hq) (fun _ _ _ => trivial) ?ret
    case C =>
      rw [← St_rl]
      exact m_figure w figs neg f x d l s _ (rl "float") _ ⟨hxd, hxl, hdl⟩ hs ⟨_, _, _, layRel_mk rfl rfl rfl rfl, hY, rfl⟩ (hn (.inr (by decide +kernel))) hf
    case k1 => k_asm
    case k2 => k_asm
    case k3 => k_asm
    case k5 => k_asm
    case ret =>
      intro v9 new9 h9 tk9 F9 N9 D9 P9
      obtain ⟨rfl, P9⟩ := P9
      simp only [List.append_nil] at N9
      (try dsimp only); (try k_fold)
      clear D9
      k_steps
      refine hret _ _ _ _ _ F9 N9 ⟨rfl, ?_⟩
      rw [LS.place, if_pos (.inr (by decide +kernel))]
      exact P9
  · refine ⟨?_⟩
    dsimp only [List.append_nil]
    rename News _ _ _ _ => NN
    first | replace NN := lay_news NN | replace NN := lay_news (ord_drop NN) | replace NN := lay_news (ord_drop (ord_drop NN))
    refine' Mut.use (d := 4) (tl := []) (Pre := fun _ => True) (Post := fun v new => v = .none ∧ LayLed w figs neg f x d l (LS.suppress f { s with beg := true }) new) ?C ?k1 ?k2 ?k3 NN ?k5 rfl (by omega) (by omega) (fun p hp => hp) (fun p hp => nomatch hp) (fun p hp q hq => nomatch hq) (fun _ _ _ => trivial) ?ret
    case C =>
      exact m_suppress w figs neg f x d l { s with beg := true } _ ⟨hxd, hxl, hdl⟩ hs ⟨_, _, _, layRel_mk rfl rfl rfl rfl, hY, rfl⟩
    case k1 => k_asm
    case k2 => k_asm
    case k3 => k_asm
    case k5 => k_asm
    case ret =>
      intro v9 new9 h9 tk9 F9 N9 D9 P9
      obtain ⟨rfl, P9⟩ := P9
      simp only [List.append_nil] at N9
      (try dsimp only); (try k_fold)
      clear D9
      k_steps
      refine hret _ _ _ _ _ F9 N9 ⟨rfl, ?_⟩
      rw [LS.place, if_neg (by decide +kernel), if_pos rfl]
      exact P9
  · refine ⟨?_⟩
    (refine' Pure.use (c_instext _ _ _ _ ?p1) ?k1 ?k2 ?k3 ?k4 ?k5 ?kK ?kd ?ku ?_; (case p1 => assumption); (case k1 => k_asm); (case k2 => k_asm); (case k3 => k_asm); (case k4 => k_asm); (case k5 => k_asm); (case kK => exact rfl); (case kd => omega); (case ku => omega); intro v9 new9 h9 tk9 F9 N9 D9 P9; obtain ⟨q9, t9, e9⟩ := P9; subst e9 q9; clear D9; simp only [List.nil_append] at N9; (try dsimp only); (try k_fold))
    k_steps
    rename News _ _ _ _ => NN
    first | replace NN := lay_news NN | replace NN := lay_news (ord_drop NN) | replace NN := lay_news (ord_drop (ord_drop NN))
    refine hret _ _ _ _ _ (by k_asm) NN ⟨rfl, ?_⟩
    rw [LS.place, if_neg (by decide +kernel), if_neg (by decide +kernel), if_pos rfl, if_neg (by simp_all)]
    refine ⟨_, _, _, layRel_mk rfl rfl rfl rfl, ?_, rfl⟩
    rw [Array.toList_push]
    exact hY.snoc _ _
  · refine ⟨?_⟩
    dsimp only [List.append_nil]
    rename News _ _ _ _ => NN
    first | replace NN := lay_news NN | replace NN := lay_news (ord_drop NN) | replace NN := lay_news (ord_drop (ord_drop NN))
    refine' Mut.use (d := 4) (tl := []) (Pre := fun _ => True) (Post := fun v new => v = .none ∧ LayLed w figs neg f x d l (LS.suppress f s) new) ?C ?k1 ?k2 ?k3 NN ?k5 rfl (by omega) (by omega) (fun p hp => hp) (fun p hp => nomatch hp) (fun p hp q hq => nomatch hq) (fun _ _ _ => trivial) ?ret
    case C =>
      exact m_suppress w figs neg f x d l s _ ⟨hxd, hxl, hdl⟩ hs ⟨_, _, _, layRel_mk rfl rfl rfl rfl, hY, rfl⟩
    case k1 => k_asm
    case k2 => k_asm
    case k3 => k_asm
    case k5 => k_asm
    case ret =>
      intro v9 new9 h9 tk9 F9 N9 D9 P9
      obtain ⟨rfl, P9⟩ := P9
      simp only [List.append_nil] at N9
      (try dsimp only); (try k_fold)
      clear D9
      k_steps
      refine hret _ _ _ _ _ F9 N9 ⟨rfl, ?_⟩
      rw [LS.place, if_neg (by decide +kernel), if_neg (by decide +kernel), if_pos rfl, if_pos ⟨by assumption, by assumption⟩]
      exact P9
  · refine ⟨?_⟩
    (refine' Pure.use (c_instext _ _ _ _ ?p1) ?k1 ?k2 ?k3 ?k4 ?k5 ?kK ?kd ?ku ?_; (case p1 => assumption); (case k1 => k_asm); (case k2 => k_asm); (case k3 => k_asm); (case k4 => k_asm); (case k5 => k_asm); (case kK => exact rfl); (case kd => omega); (case ku => omega); intro v9 new9 h9 tk9 F9 N9 D9 P9; obtain ⟨q9, t9, e9⟩ := P9; subst e9 q9; clear D9; simp only [List.nil_append] at N9; (try dsimp only); (try k_fold))
    k_steps
    rename News _ _ _ _ => NN
    first | replace NN := lay_news NN | replace NN := lay_news (ord_drop NN) | replace NN := lay_news (ord_drop (ord_drop NN))
    refine hret _ _ _ _ _ (by k_asm) NN ⟨rfl, ?_⟩
    rw [LS.place, if_neg (by decide +kernel), if_neg (by decide +kernel), if_pos rfl, if_neg (by simp_all)]
    refine ⟨_, _, _, layRel_mk rfl rfl rfl rfl, ?_, rfl⟩
    rw [Array.toList_push]
    exact hY.snoc _ _
  · refine ⟨?_⟩
    (refine' Pure.use (c_signtext _ _ _ _ _) ?k1 ?k2 ?k3 ?k4 ?k5 ?kK ?kd ?ku ?_; (case k1 => k_asm); (case k2 => k_asm); (case k3 => k_asm); (case k4 => k_asm); (case k5 => k_asm); (case kK => exact rfl); (case kd => omega); (case ku => omega); intro v9 new9 h9 tk9 F9 N9 D9 P9; obtain ⟨q9, t9, e9⟩ := P9; subst e9 q9; clear D9; simp only [List.nil_append] at N9; (try dsimp only); (try k_fold))
    k_steps
    rename News _ _ _ _ => NN
    first | replace NN := lay_news NN | replace NN := lay_news (ord_drop NN) | replace NN := lay_news (ord_drop (ord_drop NN))
    refine hret _ _ _ _ _ (by k_asm) NN ⟨rfl, ?_⟩
    rw [LS.place, if_neg (by decide +kernel), if_neg (by decide +kernel), if_neg (by decide +kernel), if_pos rfl]
    refine ⟨_, _, _, layRel_mk rfl rfl rfl rfl, ?_, rfl⟩
    rw [Array.toList_push]
    exact hY.snoc _ _
  · rename News _ _ _ _ => NN
    first | replace NN := lay_news NN | replace NN := lay_news (ord_drop NN) | replace NN := lay_news (ord_drop (ord_drop NN))
    refine hret _ _ _ _ _ (by k_asm) NN ⟨rfl, ?_⟩
    rw [LS.place, if_neg (by decide +kernel), if_neg (by decide +kernel), if_neg (by decide +kernel), if_neg (by decide +kernel)]
    refine ⟨_, _, _, layRel_mk rfl rfl rfl rfl, ?_, rfl⟩
    rw [Array.toList_push]
    exact hY.snoc _ _
end
end C_s13_part
section C_s14_part
local macro_rules | `(tactic| walk_at "no key 0") => `(tactic| fail)
set_option maxRecDepth 100000
set_option maxHeartbeats 300000
set_option rowWalk.seconds 0
theorem init_C_s14 : (PySem.Challenge.rw_pb0263_01.Holds → True) ∧ (Mine.hd.heap_1 = Mine.hd.heap_1) := by
  k_fill; exact ⟨fun _ => trivial, rfl⟩
noncomputable def vanOne (r : List Nat) (c : Nat) : List Nat := if r ∈ [rl "mark", rl "none"] then [] else if r = rl "point" then [c] else [42]
noncomputable def vanText (sz : Nat) (tx : List Nat) (rs : List (List Nat)) : List Nat :=
  if rl "star" ∈ rs then ((rs.zip tx).map fun p => vanOne p.1 p.2).flatten else List.replicate sz 32
theorem van_le {rs : List (List Nat)} {tx : List Nat} {y : List Nat} (h : y ∈ (rs.zip tx).map fun p => vanOne p.1 p.2) : y.length ≤ 1000 := by
  obtain ⟨p, _, rfl⟩ := List.mem_map.mp h
  unfold vanOne
  split
  · simp
  · split <;> simp
theorem van_next {rs : List (List Nat)} {tx : List Nat} {i : Nat} {r : List Nat} {c : Nat} {ys : List Value} {z : Str} {x : List Nat} {t : Tok} (hz : (rs.zip tx)[i]? = some (r, c)) (hY : TxtsAre ys (((rs.zip tx).take i).map fun p => vanOne p.1 p.2)) (hx : z = St x) (e : x = vanOne r c) :
    TxtsAre (ys ++ [.str z t]) (((rs.zip tx).take (i + 1)).map fun p => vanOne p.1 p.2) := by
  subst hx e
  rw [List.take_add_one, hz, List.map_append]
  exact hY.snoc _ _
theorem offL {h₀ h : Heap} {L l : Addr} {m : Str → Option Value} {o : Obj} (F : Fr h₀ L h m) (hl : h₀.get? l = some o) : l ≠ L := Nat.ne_of_lt (Nat.lt_of_lt_of_le (Heap.lt_size hl) F.above)
section
local macro_rules | `(tactic| walk_at "compareOp NotIn str ref") => `(tactic| (k_here; refine notin_T (listAt_is (Fr.keep (by k_asm) _ _ hR9)) (by assumption) (St_rl "star").symm ?_))
local macro_rules | `(tactic| walk_at "eval ListComp") => `(tactic| (k_here; k_dflt (refine comp_eval (by k_asm) (by with_unfolding_all rfl) (by decide) (by rfl) (by decide) ?_)))
local macro_rules | `(tactic| walk_at "call type:zip") => `(tactic| refine Held.out ?_)
local macro_rules | `(tactic| walk_at "call builtin:str.join") => `(tactic| refine Held.out ?_)
local macro_rules | `(tactic| walk_at "binaryOp Mult str int") => `(tactic| refine Held.out ?_)
local macro_rules | `(tactic| walk_at "compareOp NotIn str ref") => `(tactic| refine Held.out ?_)
theorem c_vanished (w : World) (h : Heap) (v : Value) (tx : List Nat) (dg sc : Int) (sz : Nat) (rs : List (List Nat)) (l1 l2 : Addr) (i1 i2 : Array Value) (n1 n2 : Nat) (hP : PicAt w h v tx dg sc sz) (hsz : sz ≤ 30) (ht : tx.length ≤ 30) (hrs : rs.length = tx.length)
    (h1 : h.get? l1 = some (listOf i1 n1)) (hY1 : TxtsAre i1.toList (tx.map fun c => [c])) (h2 : h.get? l2 = some (listOf i2 n2)) (hY2 : TxtsAre i2.toList rs) :
    Pure w 6 420 [v, .ref l1, .ref l2] h (fun v new => ∃ t, v = .str (St (vanText sz tx rs)) t) := by
  obtain ⟨P, D, l, cat, sg, k0, k1, k2, k3, k4, k5, k6, t0, t2, t3, t4, t6, rfl, hP1, hP2, -⟩ := hP
  refine Pure.enter (by k_is) (by k_is) (by exact rfl) (by exact locs rfl) (by decide) ?_ (by exact rfl) (by exact rfl) (by exact rfl) (by decide)
  intro mean mg mb dp un gd outer A₀ base hp₁ gs₁ dr₁ tk₁ os₁ L' Q mF AF EF F' N' B' X' T' hdp hun' hret
  ktr_unf
  k_steps
  refine ⟨?_⟩
  refine notin_T (listAt_is (Fr.keep (by k_asm) _ _ h2)) hY2 (St_rl "star").symm ?_
  k_steps
  · rename (_ ∈ rs) => hst
    have e1 := hY1.length
    have e2 := hY2.length
    rw [List.length_map] at e1
    refine ⟨?_⟩
    refine comp_zip (xs := i2.toList) (ys := i1.toList) (fun i ys => TxtsAre ys (((rs.zip tx).take i).map fun p => vanOne p.1 p.2)) rfl rfl rfl rfl (by decide) (by k_asm) (by k_asm) (listAt_is' (Fr.keep (by k_asm) _ _ h2)) (listAt_is' (Fr.keep (by k_asm) _ _ h1)) (offL (by k_asm) h2) (offL (by k_asm) h1) (by omega) (by omega) .nil ?turn ?fin
    case turn =>
      rintro s₂ i ⟨hh, rfl⟩ hi ys own C oC D m₂ h3 tk E' hyl hY hoC ⟨v1, v2, hv1, hv2, ha, hb⟩ F2 N2 offD hDC
      simp only [List.nil_append] at N2
      obtain ⟨r, t7, hr, rfl⟩ := hY2.get hv1
      obtain ⟨c', t8, hc, rfl⟩ := hY1.get hv2
      rw [List.getElem?_map] at hc
      obtain ⟨c, hcc, rfl⟩ := Option.map_eq_some_iff.mp hc
      have hz : (rs.zip tx)[i]? = some (r, c) := by rw [List.getElem?_zip_eq_some]; exact ⟨hr, hcc⟩
      have eM : ([Str.ofString "mark", Str.ofString "none"].any fun x => x == St r) = decide (r ∈ [rl "mark", rl "none"]) := by
        rw [← any_T, List.map_cons, List.map_cons, List.map_nil, St_rl, St_rl]
      have eP : (St r == Str.ofString "point") = decide (r = rl "point") := by
        rw [← St_rl, st_beq, Bool.eq_iff_iff, beq_iff_eq, decide_eq_true_eq]
      have hl1 : (St [c]).length = 1 := rfl
      refine wpAny_tests_nil ?_
      k_steps
      · rename (List.any _ _ = true) => hm
        refine CEnd.intro (by k_asm) (by k_asm) (fun p hp => .tail _ hp) (van_next hz hY lit_none ?_)
        rw [eM, decide_eq_true_eq] at hm
        rw [vanOne, if_pos hm]
      · rename (List.any _ _ = false) => hm
        rename ((_ == _) = true) => hp
        refine CEnd.intro (by k_asm) (by k_asm) (fun p hp => .tail _ hp) (van_next hz hY rfl ?_)
        rw [eM, decide_eq_false_iff_not] at hm
        rw [eP, decide_eq_true_eq] at hp
        rw [vanOne, if_neg hm, if_pos hp]
      · rename (List.any _ _ = false) => hm
        rename ((_ == _) = false) => hp
        refine ⟨?_⟩
        refine mul_T lit_star (by omega) (by omega) ?_
        intro t' k'
        k_steps
        refine CEnd.intro (by k_asm) (by k_asm) (fun p hp => .tail _ hp) (van_next hz hY rfl ?_)
        rw [eM, decide_eq_false_iff_not] at hm
        rw [eP, decide_eq_false_iff_not] at hp
        rw [vanOne, if_neg hm, if_neg hp]
        rfl
    case fin =>
      intro D h' tk ys F1 N1 oD hY
      rw [e2, List.take_of_length_le (by rw [List.length_zip]; omega)] at hY
      k_steps
      refine ⟨?_⟩
      refine join_T (symE (by k_asm) (by k_mem)) hY lit_none (by rw [List.length_map, List.length_zip]; omega) (fun y hy => van_le hy) ?_
      intro t' k'
      k_steps
      refine hret _ [] _ _ _ (by k_asm) (fun _ hp => nomatch hp) ⟨_, congrArg (Value.str · _) ?_⟩
      rw [vanText, if_pos hst]
  · rename (¬ (_ ∈ rs)) => hst
    refine ⟨?_⟩
    refine mul_T lit_blank (by omega) (by omega) ?_
    intro t' k'
    k_steps
    refine hret _ [] _ _ _ (by k_asm) (fun _ hp => nomatch hp) ⟨_, congrArg (Value.str · _) ?_⟩
    rw [vanText, if_neg hst]
    rfl
end
end C_s14_part
section C_s15_part
set_option maxRecDepth 100000
set_option maxHeartbeats 300000
set_option rowWalk.seconds 0
theorem init_C_s15 : (PySem.Challenge.rw_pb0263_01.Holds → True) ∧ (Mine.hd.heap_1 = Mine.hd.heap_1) := by
  k_fill; exact ⟨fun _ => trivial, rfl⟩
noncomputable def isFig (r : List Nat) : Bool := decide (r = rl "figure") || LS.supp r
/-- a mark that lets the walk pass -/
structure Go (n : Nat) : Prop where
  go : True
theorem figs_len {dg n : Nat} (h : n < 10 ^ dg) (hd : 0 < dg) : (figsOf dg n).length = dg := by
  unfold figsOf
  split
  · simp
  · have := digs_len dg n h hd
    simp; omega
theorem perm_lay {h₀ h : Heap} {L lf x d T9 : Addr} {ol ox od o9 : Obj} {r : List (Addr × Obj)} (N : News h₀ L h ((lf, ol) :: (x, ox) :: (d, od) :: (T9, o9) :: r)) : News h₀ L h ((x, ox) :: (d, od) :: (lf, ol) :: r) := fun p hp => N p (by
  simp only [List.mem_cons] at hp ⊢
  rcases hp with h | h | h | h
  · exact .inr (.inl h)
  · exact .inr (.inr (.inl h))
  · exact .inl h
  · exact .inr (.inr (.inr (.inr h))))
theorem arr_lst (i : Array Value) (n : Nat) : (listOf i n).data = .seq i.toList.toArray n := by rw [show i.toList.toArray = i by simp]
theorem Mut.use5 {w : World} {d : Nat} {f : Addr} {vs : List Value} {o1 o2 o3 o4 o5 a1 a2 a3 : Addr × Obj} {r : List (Addr × Obj)} {Post : Value → List (Addr × Obj) → Prop} {mean : ExcName → Option Value} {mg mb : Str → Option Value} {dp un : Nat} {gd : Option (List Code)} {cn : Str} {cs : Scope} {L a : Addr} {ccd : Value} {cl : List (Str × Addr)} {outer : List Env} {A₀ : Around} {base h₀ : Heap} {m : Str → Option Value} {s : Shared} {Q E : Value → Shared → Prop}
    (C : Mut w d f vs [a1, a2, a3] (fun _ => True) Post) (B : Below A₀ base outer h₀) (F : Fr h₀ L s.heap m) (X : (Mine.hd.heap_1 w.params).In h₀) (N : News h₀ L s.heap (o1 :: o2 :: o3 :: o4 :: o5 :: a1 :: a2 :: a3 :: r)) (T : TopL mean mg mb h₀) (hk : cs.kind = .function) (hd : dp + d < recursionLimit) (hu : un + 12 * d < cLine)
    (off : ∀ q ∈ o1 :: o2 :: o3 :: o4 :: o5 :: r, @Ne Nat a1.1 q.1 ∧ @Ne Nat a2.1 q.1 ∧ @Ne Nat a3.1 q.1)
    (ret : ∀ v new h' tk', Fr h₀ L h' m → News h₀ L h' (new ++ (o1 :: o2 :: o3 :: o4 :: o5 :: r)) → Post v new → Q v { s with heap := h', toks := tk' }) :
    wpAny (model PySem.Challenge.rw_pb0263_01.row.prog w) (ktrTop dp un gd cn cs L a ccd cl outer) (call (.ref f) vs) Q E s := by
  refine Mut.use (tl := o1 :: o2 :: o3 :: o4 :: o5 :: r) C B F X N T hk hd hu (fun p hp => ?_) (fun p hp => ?_) (fun p hp q hq => ?_) (fun _ _ _ => trivial) fun v new h' tk' F' N' _ P => ret v new h' tk' F' N' P
  · simp only [List.mem_cons, List.not_mem_nil, or_false] at hp ⊢
    rcases hp with h | h | h <;> simp [h]
  · simp only [List.mem_cons] at hp ⊢
    rcases hp with h | h | h | h | h | h <;> simp [h]
  · have := off q hq
    simp only [List.mem_cons, List.not_mem_nil, or_false] at hp
    rcases hp with h | h | h
    · rw [h]; exact this.1
    · rw [h]; exact this.2.1
    · rw [h]; exact this.2.2
/-- the layer behind all places -/
noncomputable def layAll (figs : List Nat) (neg : Bool) (f : Nat) (ps : List (List Nat × Nat)) : LS := ps.foldl (fun s p => s.place figs neg f p.1 p.2) {}
theorem fig_len (figs : List Nat) (f : Nat) (r : List Nat) (s : LS) : (s.fig figs f r).found.length = s.found.length + 1 := by
  unfold LS.fig; dsimp only; split <;> simp [LS.suppress]
theorem place_len (figs : List Nat) (neg : Bool) (f : Nat) (r : List Nat) (c : Nat) (s : LS) : (s.place figs neg f r c).found.length = s.found.length + 1 := by
  unfold LS.place
  split
  · exact fig_len ..
  split
  · simp [LS.suppress]
  split
  · split <;> simp [LS.suppress]
  split <;> simp
theorem place_next (figs : List Nat) (neg : Bool) (f : Nat) (r : List Nat) (c : Nat) (s : LS) : (s.place figs neg f r c).next = s.next + (if isFig r then 1 else 0) := by
  unfold LS.place isFig
  by_cases h : r = rl "figure" ∨ LS.supp r = true
  · rw [if_pos h, fig_next, if_pos (by rcases h with h | h <;> simp [h])]
  · have h' : (decide (r = rl "figure") || LS.supp r) = false := by
      rw [Bool.eq_false_iff]; intro e; exact h (by simpa using e)
    rw [if_neg h, h']
    split
    · rfl
    split
    · split <;> rfl
    split <;> rfl
theorem layAll_snoc (figs : List Nat) (neg : Bool) (f : Nat) (ps : List (List Nat × Nat)) (p : List Nat × Nat) : layAll figs neg f (ps ++ [p]) = (layAll figs neg f ps).place figs neg f p.1 p.2 := by unfold layAll; rw [List.foldl_append]; rfl
theorem fold_len (figs : List Nat) (neg : Bool) (f : Nat) (ps : List (List Nat × Nat)) : ∀ s : LS, (ps.foldl (fun s p => s.place figs neg f p.1 p.2) s).found.length = s.found.length + ps.length ∧ (ps.foldl (fun s p => s.place figs neg f p.1 p.2) s).next = s.next + (ps.map (·.1)).countP isFig := by
  induction ps with
  | nil => intro s; exact ⟨rfl, rfl⟩
  | cons p r ih =>
    intro s
    rw [List.foldl_cons]
    obtain ⟨h1, h2⟩ := ih (s.place figs neg f p.1 p.2)
    rw [h1, h2, place_len, place_next, List.map_cons, List.countP_cons, List.length_cons]
    exact ⟨by omega, by omega⟩
theorem layAll_len (figs : List Nat) (neg : Bool) (f : Nat) (ps : List (List Nat × Nat)) : (layAll figs neg f ps).found.length = ps.length := by rw [layAll, (fold_len ..).1]; simp
theorem layAll_next (figs : List Nat) (neg : Bool) (f : Nat) (ps : List (List Nat × Nat)) : (layAll figs neg f ps).next = (ps.map (·.1)).countP isFig := by rw [layAll, (fold_len ..).2]; simp
theorem roleOne_in : ∀ c ∈ AL, roleOne c ∈ ROLES := by decide +kernel
theorem roles_in' {fl tx : List Nat} (ha : ∀ x ∈ tx, x ∈ AL) : ∀ acc, (∀ r ∈ acc, r ∈ ROLES) → ∀ r ∈ tx.foldl (roleStep fl) acc, r ∈ ROLES := by
  induction tx with
  | nil => intro acc h; exact h
  | cons c r ih =>
    intro acc h
    rw [List.foldl_cons]
    refine ih (fun x hx => ha x (.tail _ hx)) _ fun q hq => ?_
    rcases List.mem_append.mp hq with hq | hq
    · exact h q hq
    · rw [List.mem_singleton.mp hq]
      split
      · split
        · exact (by decide +kernel : rl "float" ∈ ROLES)
        · exact (by decide +kernel : rl "lead" ∈ ROLES)
      · exact roleOne_in c (ha c (.head _))
theorem roles_in {tx : List Nat} (ha : ∀ x ∈ tx, x ∈ AL) : ∀ r ∈ rolesOf tx, r ∈ ROLES := roles_in' ha [] (fun _ h => nomatch h)
/-- the figures that stand ahead of a figure's place are fewer than all -/
theorem fig_room {rs : List (List Nat)} {i : Nat} {r : List Nat} (hr : rs[i]? = some r) (hf : isFig r = true) : (rs.take i).countP isFig < rs.countP isFig := by
  have hi : i < rs.length := (List.getElem?_eq_some_iff.mp hr).1
  have e : rs.take (i + 1) = rs.take i ++ [r] := by rw [List.take_add_one, hr]; rfl
  have h1 : (rs.take (i + 1)).countP isFig = (rs.take i).countP isFig + 1 := by rw [e, List.countP_append, List.countP_singleton, if_pos hf]
  have h2 : (rs.take (i + 1)).countP isFig ≤ rs.countP isFig := (List.take_sublist _ _).countP_le
  omega
noncomputable def LS.Good (s : LS) : Prop := 0 ≤ s.spot ∧ s.spot < s.found.length
theorem good_supp (f : Nat) (s : LS) : (s.suppress f).Good := by
  refine ⟨?_, ?_⟩
  · show (0 : Int) ≤ (s.found.length : Int); omega
  · show (s.found.length : Int) < ((s.found ++ [[f]]).length : Int)
    rw [List.length_append, List.length_singleton]; omega
theorem good_grow {s s' : LS} {x : List Nat} (h : s.Good) (h1 : s'.spot = s.spot) (h2 : s'.found = s.found ++ [x]) : s'.Good := by
  refine ⟨h1 ▸ h.1, ?_⟩
  have := h.2
  rw [h1, h2, List.length_append, List.length_singleton]
  omega
theorem good_place {figs : List Nat} {neg : Bool} {f : Nat} {r : List Nat} {c : Nat} {s : LS} (h : s.Good) : (s.place figs neg f r c).Good := by
  unfold LS.place
  split
  · unfold LS.fig; dsimp only; split
    · exact good_grow h rfl rfl
    · exact good_supp _ _
  split
  · exact good_supp _ _
  split
  · split
    · exact good_supp _ _
    · exact good_grow h rfl rfl
  split
  · exact good_grow h rfl rfl
  · exact good_grow h rfl rfl
theorem good_lead {figs : List Nat} {neg : Bool} {f : Nat} {c : Nat} {s : LS} : (s.place figs neg f (rl "lead") c).Good := by
  unfold LS.place
  rw [if_neg (by decide +kernel), if_pos rfl]
  exact good_supp _ _
theorem good_fold (figs : List Nat) (neg : Bool) (f : Nat) (ps : List (List Nat × Nat)) : ∀ s : LS, s.Good ∨ rl "lead" ∈ ps.map (·.1) → (ps.foldl (fun s p => s.place figs neg f p.1 p.2) s).Good := by
  induction ps with
  | nil => intro s h; rcases h with h | h
           · exact h
           · cases h
  | cons p r ih =>
    intro s h
    rw [List.foldl_cons]
    refine ih _ ?_
    rcases h with h | h
    · exact .inl (good_place h)
    · rw [List.map_cons, List.mem_cons] at h
      rcases h with h | h
      · exact .inl (h ▸ good_lead)
      · exact .inr h
theorem layAll_good {figs : List Nat} {neg : Bool} {f : Nat} {ps : List (List Nat × Nat)} (h : rl "lead" ∈ ps.map (·.1)) : (layAll figs neg f ps).Good := good_fold figs neg f ps {} (.inr h)
theorem found_le {figs : List Nat} {neg : Bool} {f : Nat} (ps : List (List Nat × Nat)) : ∀ s : LS, (∀ y ∈ s.found, y.length ≤ 1) → ∀ y ∈ (ps.foldl (fun s p => s.place figs neg f p.1 p.2) s).found, y.length ≤ 1 := by
  have snoc : ∀ {l : List (List Nat)} {x : List Nat}, (∀ y ∈ l, y.length ≤ 1) → x.length ≤ 1 → ∀ y ∈ l ++ [x], y.length ≤ 1 := fun h hx y hy => by
    rcases List.mem_append.mp hy with hy | hy
    · exact h y hy
    · rw [List.mem_singleton.mp hy]; exact hx
  induction ps with
  | nil => intro s h; exact h
  | cons p r ih =>
    intro s h
    rw [List.foldl_cons]
    refine ih _ ?_
    unfold LS.place
    split
    · unfold LS.fig; dsimp only; split <;> exact snoc h (Nat.le_refl _)
    split
    · exact snoc h (Nat.le_refl _)
    split
    · split <;> exact snoc h (Nat.le_refl _)
    split <;> exact snoc h (Nat.le_refl _)
noncomputable def editSpec (tx : List Nat) (dg sz : Nat) (U : Int) : List Nat :=
  let rs := rolesOf tx
  let n := U.natAbs % 10 ^ dg
  let figs := figsOf dg n
  let neg := decide (U < 0 ∧ 0 < n)
  if figs = List.replicate figs.length 48 ∧ rl "figure" ∉ rs then vanText sz tx rs
  else
    let s := layAll figs neg (if rl "star" ∈ rs then 42 else 32) (rs.zip tx)
    if rl "lead" ∈ rs then (s.found.set s.spot.toNat [signTxt (tx.getD (rs.idxOf (rl "lead")) 0) neg]).flatten else s.found.flatten
section
local macro_rules | `(tactic| walk_at "call ref") => `(tactic| (k_here; (fail_if_success with_reducible show wpAny _ _ (call (Value.ref 411) _) _ _ _); refine Held.out ?_))
local macro_rules | `(tactic| walk_at "exec If") => `(tactic| ((fail_if_success (rename Go 1 => x)); refine Held.out ?_))
local macro_rules | `(tactic| walk_at "eval IfExp") => `(tactic| ((fail_if_success (rename Go 2 => x)); refine Held.out ?_))
local macro_rules | `(tactic| walk_at "binaryOp Mult str int") => `(tactic| refine Held.out ?_)
local macro_rules | `(tactic| walk_at "compareOp NotIn str ref") => `(tactic| refine Held.out ?_)
local macro_rules | `(tactic| walk_at "compareOp In str ref") => `(tactic| refine Held.out ?_)
local macro_rules | `(tactic| walk_at "call type:zip") => `(tactic| refine Held.out ?_)
local macro_rules | `(tactic| walk_at "call builtin:str.join") => `(tactic| refine Held.out ?_)
local macro_rules | `(tactic| walk_at "call builtin:list.index") => `(tactic| refine Held.out ?_)
local macro_rules | `(tactic| walk_at "exec For Tuple Call cons nil") => `(tactic| (k_here; (rename Fr _ _ _ _ => lF'); (with_unfolding_all refine' For_turns lF' ?_; k_whole)))
local macro_rules | `(tactic| walk_at "subscriptTail Name Call ref int") => `(tactic| (k_here; (refine' get_atK ?N ?m ?j ?hx ?_; (case N => k_asm); (case m => k_mem); (case j => omega); (case hx => assumption))))
local macro_rules | `(tactic| walk_at "setItem ref int str") => `(tactic| refine Held.out ?_)
set_option maxHeartbeats 6000000 in
theorem c_edited (w : World) (h : Heap) (v : Value) (tx : List Nat) (dg sz : Nat) (sc : Int) (T : Addr) (u s : Int) (t1 t2 : Tok) (hP : PicAt w h v tx dg sc sz) (ht : tx.length ≤ 30) (ha : ∀ x ∈ tx, x ∈ AL) (hsz : sz ≤ 30)
    (hT : IsTup h T #[.int u t1, .int s t2]) (hs : 0 ≤ s ∧ s ≤ sc ∧ sc ≤ 2) (hdg : 0 < dg ∧ dg ≤ 18) (U : Int) (hU : u * 10 ^ (sc - s).toNat = U) (hfig : (rolesOf tx).countP isFig ≤ dg) :
    Pure w 24 427 [v, .ref T, .bool false] h (fun v new => ∃ t, v = .str (St (editSpec tx dg sz U)) t) := by
  refine Pure.enter (by k_is) (by k_is) (by exact rfl) (by exact locs rfl) (by decide) ?_ (by exact rfl) (by exact rfl) (by exact rfl) (by decide)
  intro mean mg mb dp un gd outer A₀ base hp₁ gs₁ dr₁ tk₁ os₁ L' Q mF AF EF F' N' B' X' T' hdp hun' hret
  ktr_unf
  k_steps
  refine ⟨?_⟩
  refine' Pure.use (c_places _ _ v tx dg sc sz ht (hP.keeps (fun b o e => Fr.keep (by k_asm) b o e))) ?k1 ?k2 ?k3 ?k4 ?k5 rfl (by omega) (by omega) ?_
  case k1 => k_asm
  case k2 => k_asm
  case k3 => k_asm
  case k4 => k_asm
  case k5 => k_asm
  intro v9 new9 h9 tk9 F9 N9 D9 P9
  obtain ⟨l1, i1, n1, objs1, rfl, rfl, hY1⟩ := P9
  simp only [List.append_nil] at N9
  (try dsimp only); (try k_fold)
  clear D9
  k_steps
  refine ⟨?_⟩
  rename News _ _ _ ((l1, _) :: _) => NN
  rename Fr _ _ _ _ => FF
  refine' Pure.use (c_roles _ _ tx l1 i1 n1 ht ha (newsGet NN (.head _)) hY1) ?k1 ?k2 ?k3 NN ?k5 rfl (by omega) (by omega) ?_
  case k1 => k_asm
  case k2 => k_asm
  case k3 => k_asm
  case k5 => k_asm
  clear NN FF
  intro v9 new9 h9 tk9 F9 N9 D9 P9
  obtain ⟨l2, i2, n2, objs2, rfl, rfl, hY2⟩ := P9
  (try dsimp only); (try k_fold)
  have h21 : @Ne Nat l1 l2 := (D9 _ (.head _)).1
  clear D9
  replace N9 : News h L' h9 [(l2, listOf i2 n2), (l1, listOf i1 n1)] := fun p hp => by
    rcases List.mem_cons.mp hp with rfl | hp
    · exact N9 _ (.head _)
    · rw [List.mem_singleton.mp hp]; exact N9 _ (List.mem_append_right _ (.head _))
  k_steps
  refine ⟨?_⟩
  refine' Pure.use (c_figs _ _ v tx (dg : Int) sc sz T u s t1 t2 (hP.keeps (fun b o e => Fr.keep (by k_asm) b o e)) (isTup_stays (fun b o e => Fr.keep (by k_asm) b o e) hT) hs (by omega) U hU) ?k1 ?k2 ?k3 ?k4 ?k5 rfl (by omega) (by omega) ?_
  case k1 => k_asm
  case k2 => k_asm
  case k3 => k_asm
  case k4 => k_asm
  case k5 => k_asm
  intro v9 new9 h9 tk9 F9 N9 D9 P9
  obtain ⟨T9, t9, rfl, rfl⟩ := P9
  rw [Int.toNat_natCast] at N9 D9
  generalize hn : U.natAbs % 10 ^ dg = n at N9 D9
  generalize hfg : figsOf dg n = figs at N9 D9
  generalize hneg : decide (U < 0 ∧ 0 < n) = neg at N9 D9
  simp only [List.cons_append, List.nil_append] at N9
  simp only [List.forall_mem_singleton, LCg.Off1] at D9
  (try dsimp only); (try k_fold)
  have hnlt : n < 10 ^ dg := by rw [← hn]; exact Nat.mod_lt _ (Nat.pow_pos (by decide))
  have hfl : figs.length = dg := by rw [← hfg]; exact figs_len hnlt hdg.1
  have hL : (St figs).length = figs.length := st_length _
  have hspec : editSpec tx dg sz U = if figs = List.replicate figs.length 48 ∧ rl "figure" ∉ rolesOf tx then vanText sz tx (rolesOf tx) else
      if rl "lead" ∈ rolesOf tx then ((layAll figs neg (if rl "star" ∈ rolesOf tx then 42 else 32) ((rolesOf tx).zip tx)).found.set (layAll figs neg (if rl "star" ∈ rolesOf tx then 42 else 32) ((rolesOf tx).zip tx)).spot.toNat [signTxt (tx.getD ((rolesOf tx).idxOf (rl "lead")) 0) neg]).flatten else (layAll figs neg (if rl "star" ∈ rolesOf tx then 42 else 32) ((rolesOf tx).zip tx)).found.flatten := by
    unfold editSpec
    dsimp only
    rw [hn, hfg, hneg]
  k_steps
  refine ⟨?_⟩
  rename Heap => hh
  refine wpAny_mono (Q := fun f s' => (f = .next ∧ ¬ (figs = List.replicate figs.length 48 ∧ rl "figure" ∉ rolesOf tx) ∧ ∃ k, s' = { heap := hh, gens := gs₁, drawn := dr₁, toks := k, os := os₁ }) ∨ ((figs = List.replicate figs.length 48 ∧ rl "figure" ∉ rolesOf tx) ∧ ∃ t h4 k m4, f = .ret (.str (St (vanText sz tx (rolesOf tx))) t) ∧ s' = ⟨h4, gs₁, dr₁, k, os₁⟩ ∧ Fr h L' h4 m4)) ?A (fun f s' hf => ?B) (fun _ _ e => e)
  case A =>
    have go1 : Go 1 := ⟨trivial⟩
    k_steps
    refine ⟨?_⟩
    refine mul_T lit_0 (by omega) (by omega) ?_
    intro t' k'
    k_steps
    · rename ((_ == _) = true) => hz
      rw [hL, Int.toNat_natCast, st_beq, beq_iff_eq] at hz
      refine ⟨?_⟩
      refine notin_T (listAt_is (newsGet (by k_asm) (.tail _ (.head _)))) hY2 (St_rl "figure").symm ?_
      k_steps
      · rename (_ ∈ rolesOf tx) => hnf
        exact .inl ⟨rfl, fun h => h.2 hnf, _, rfl⟩
      · rename (¬ (_ ∈ rolesOf tx)) => hnf
        refine ⟨?_⟩
        rename News _ _ _ _ => NN
        refine' Pure.use (c_vanished _ _ v tx (dg : Int) sc sz (rolesOf tx) l1 l2 i1 i2 n1 n2 (hP.keeps (fun b o e => Fr.keep (by k_asm) b o e)) hsz ht (roles_len _ _) (newsGet NN (.tail _ (.tail _ (.head _)))) hY1 (newsGet NN (.tail _ (.head _))) hY2) ?k1 ?k2 ?k3 NN ?k5 rfl (by omega) (by omega) ?_
        case k1 => k_asm
        case k2 => k_asm
        case k3 => k_asm
        case k5 => k_asm
        intro v9 new9 h9 tk9 F9 N9 D9 P9
        obtain ⟨t9, rfl⟩ := P9
        (try dsimp only); (try k_fold)
        clear D9 N9
        k_steps
        exact .inr ⟨⟨hz, hnf⟩, _, _, _, _, rfl, rfl, F9⟩
    · rename ((_ == _) = false) => hz
      rw [hL, Int.toNat_natCast, st_beq, beq_eq_false_iff_ne] at hz
      exact .inl ⟨rfl, fun h => hz h.1, _, rfl⟩
  case B =>
    have go1 : Go 1 := ⟨trivial⟩
    rcases hf with ⟨rfl, hZ, k, rfl⟩ | ⟨hZ, t, h4, k, m4, rfl, rfl, F4⟩
    · k_steps
      refine ⟨?_⟩
      refine wpAny_mono (Q := fun v s' => Held (∃ t k', v = .str (St [if rl "star" ∈ rolesOf tx then 42 else 32]) t ∧ s' = { heap := hh, gens := gs₁, drawn := dr₁, toks := k', os := os₁ })) ?A2 (fun v s' hf => ?B2) (fun _ _ e => e)
      case A2 =>
        have go2 : Go 2 := ⟨trivial⟩
        k_steps
        refine ⟨?_⟩
        refine in_T (listAt_is (newsGet (by k_asm) (.tail _ (.head _)))) hY2 (St_rl "star").symm ?_
        k_steps
        · rename (_ ∈ rolesOf tx) => hst
          refine ⟨⟨_, _, congrArg (Value.str · _) ?_, rfl⟩⟩
          rw [if_pos hst]; exact lit_star
        · rename (¬ (_ ∈ rolesOf tx)) => hst
          refine ⟨⟨_, _, congrArg (Value.str · _) ?_, rfl⟩⟩
          rw [if_neg hst]; exact lit_blank
      case B2 =>
        obtain ⟨⟨t8, k8, rfl, rfl⟩⟩ := hf
        generalize hff : (if rl "star" ∈ rolesOf tx then 42 else 32) = f at hspec ⊢
        have go2 : Go 2 := ⟨trivial⟩
        k_steps
        refine ⟨?_⟩
        rename News _ _ _ ((_, listOf #[] 0) :: (_, instObj 411 _) :: _) => NN
        rename Fr _ _ _ _ => FF
        have N1 := perm_lay NN
        refine ktu_zip (xs := i2.toList) (ys := i1.toList) rfl FF N1 (.tail _ (.tail _ (.tail _ (.head _)))) rfl (arr_lst i2 n2) (.tail _ (.tail _ (.tail _ (.tail _ (.head _))))) rfl (arr_lst i1 n1) ?_
        intro I hI
        replace hI := allLt_of hI
        simp only [AllLt] at hI
        refine' rest_loopB (β := Addr × Addr × Addr) (σ := List DictEntry × (Array Value × Nat) × LS) (_, _, _) (fun b c => []) (fun b c => [(b.1, instObj 411 b.2.1), (b.2.1, dictOf c.1 8), (b.2.2, listOf c.2.1.1 c.2.1.2), (l2, listOf i2 n2), (l1, listOf i1 n1)]) ["role", "sign"]
          (fun b xs c => ∃ i, xs = zipItems (i2.toList.drop i) (i1.toList.drop i) ∧ i ≤ tx.length ∧ LayRel w figs neg f b.2.2 c.2.2 c.1 ∧ TxtsAre c.2.1.1.toList c.2.2.found ∧ c.2.2 = layAll figs neg f (((rolesOf tx).zip tx).take i)) (_, (#[], 0), {}) ?hm rfl ?hR ?nil ?cons
        case hm => intro p hp; cases hp
        case hR => exact ⟨0, rfl, Nat.zero_le _, layRel_of rfl rfl rfl rfl, .nil, rfl⟩
        case nil =>
          rintro ⟨es, ⟨js, n3⟩, s3⟩ m h2 tk ⟨i, hxs, hi, hE, hY, hs3⟩ F N
          have hl2 := hY2.length
          have hl1 := hY1.length
          rw [List.length_map] at hl1
          rw [show (rolesOf tx).length = tx.length from roles_len _ _] at hl2
          have hd : tx.length ≤ i := by
            cases hx2 : i2.toList.drop i with
            | nil => rw [← hl2]; exact List.drop_eq_nil_iff.mp hx2
            | cons y2 r2 =>
              cases hx1 : i1.toList.drop i with
              | nil => rw [← hl1]; exact List.drop_eq_nil_iff.mp hx1
              | cons y1 r1 => rw [hx2, hx1] at hxs; cases hxs
          dsimp only at hE hY hs3
          rw [List.take_of_length_le (by rw [List.length_zip, show (rolesOf tx).length = tx.length from roles_len _ _]; omega)] at hs3
          obtain ⟨TT, rfl⟩ := hE
          clear NN FF N1
          dsimp only [kstB] at F N ⊢
          k_steps
          refine ⟨?_⟩
          refine in_T (listAt_is (newsGet (by k_asm) (.tail _ (.tail _ (.tail _ (.head _)))))) hY2 (St_rl "lead").symm ?_
          k_steps
          · rename (_ ∈ rolesOf tx) => hle
            have hrl : (rolesOf tx).length = tx.length := roles_len _ _
            have hix : (rolesOf tx).idxOf (rl "lead") < tx.length := by rw [← hrl]; exact List.idxOf_lt_length_iff.mpr hle
            have hgood : s3.Good := by rw [hs3]; exact layAll_good (by rw [List.map_fst_zip (by omega)]; exact hle)
            refine ⟨?_⟩
            refine index_T (listAt_is' (newsGet N (.tail _ (.tail _ (.tail _ (.head _)))))) hY2 (St_rl "lead").symm hle (by omega) ?_
            generalize hixe : (rolesOf tx).idxOf (rl "lead") = ix at hix hspec ⊢
            obtain ⟨ti, hti⟩ := hY1.at (i := ix) (x := [tx.getD ix 0]) (by rw [List.getElem?_map, List.getD_eq_getElem?_getD, List.getElem?_eq_getElem hix]; rfl)
            have hjs : js.size = s3.found.length := by rw [← hY.length, Array.length_toList]
            have hfln : s3.found.length = tx.length := by rw [hs3, layAll_len, List.length_zip]; omega
            have hgx := hgood.1
            have hgy := hgood.2
            k_steps
            refine ⟨?_⟩
            refine' Pure.use (c_signtext _ _ _ neg _) ?k1 ?k2 ?k3 ?k4 ?k5 rfl (by omega) (by omega) ?_
            case k1 => k_asm
            case k2 => k_asm
            case k3 => k_asm
            case k4 => k_asm
            case k5 => k_asm
            intro v9 new9 h9 tk9 F9 N9 D9 P9
            obtain ⟨rfl, t9, rfl⟩ := P9
            simp only [List.nil_append] at N9
            (try dsimp only); (try k_fold)
            clear D9
            k_steps
            refine ⟨?_⟩
            rename News _ _ _ ((_, instObj 411 _) :: _) => NN
            refine set_atI (j := s3.spot.toNat) (rest := [_, _]) (by omega) (by k_asm) NN (.tail _ (.tail _ (.head _))) (by omega) (by omega) (List.forall_mem_cons.mpr ⟨⟨.head _, ?_⟩, List.forall_mem_cons.mpr ⟨⟨.tail _ (.head _), ?_⟩, fun _ h => nomatch h⟩⟩) ?_
            · show @Ne Nat _ _; omega
            · show @Ne Nat _ _; omega
            intro h5 F5 N5 hl5
            k_steps
            refine ⟨?_⟩
            have hset : TxtsAre (js.setIfInBounds s3.spot.toNat (.str (St [signTxt (tx.getD ix 0) neg]) t9)).toList (s3.found.set s3.spot.toNat [signTxt (tx.getD ix 0) neg]) := by
              rw [Array.toList_setIfInBounds]
              exact hY.set _ _ _
            refine join_T (ys := (js.setIfInBounds s3.spot.toNat (.str (St [signTxt (tx.getD ix 0) neg]) t9)).toList) (by rw [Array.toArray_toList]; exact hl5) hset lit_none (by rw [List.length_set]; omega) ?_ ?_
            · intro y hy
              rcases List.mem_or_eq_of_mem_set hy with hy | hy
              · exact Nat.le_trans (found_le _ {} (fun _ h => nomatch h) y (by rw [hs3] at hy; exact hy)) (by decide)
              · rw [hy]; exact (by decide : 1 ≤ 1000)
            intro t' k'
            k_steps
            refine hret _ [] _ _ _ (by k_asm) (fun _ hp => nomatch hp) ⟨_, congrArg (Value.str · _) ?_⟩
            rw [hspec, if_neg hZ, if_pos hle, ← hs3]
          · rename (¬ (_ ∈ rolesOf tx)) => hle
            have hrl : (rolesOf tx).length = tx.length := roles_len _ _
            have hfln : s3.found.length = tx.length := by rw [hs3, layAll_len, List.length_zip]; omega
            refine ⟨?_⟩
            refine join_T (listAt_is' (newsGet N (.tail _ (.tail _ (.head _))))) hY lit_none (by omega) (fun y hy => Nat.le_trans (found_le _ {} (fun _ h => nomatch h) y (by rw [hs3] at hy; exact hy)) (by decide)) ?_
            intro t' k'
            k_steps
            refine hret _ [] _ _ _ (by k_asm) (fun _ hp => nomatch hp) ⟨_, congrArg (Value.str · _) ?_⟩
            rw [hspec, if_neg hZ, if_neg hle, ← hs3]
        case cons =>
          rintro ⟨es, ⟨js, n3⟩, s3⟩ m a r ⟨i, hxs, hi, hE, hY, hs3⟩
          cases hx2 : i2.toList.drop i with
          | nil => rw [hx2] at hxs; cases hxs
          | cons y2 rest2 =>
          cases hx1 : i1.toList.drop i with
          | nil => rw [hx2, hx1] at hxs; cases hxs
          | cons y1 rest1 =>
          obtain ⟨hy2, hr2⟩ := drop_cons hx2
          obtain ⟨hy1, hr1⟩ := drop_cons hx1
          rw [hx2, hx1] at hxs
          injection hxs with e1 e2
          subst e1 e2
          obtain ⟨rr, t5, hrr, rfl⟩ := hY2.get hy2
          obtain ⟨c', t6, hc', rfl⟩ := hY1.get hy1
          rw [List.getElem?_map] at hc'
          obtain ⟨c, hcc, rfl⟩ := Option.map_eq_some_iff.mp hc'
          have hcA := ha c (List.mem_of_getElem? hcc)
          have hrR := roles_in ha rr (List.mem_of_getElem? hrr)
          have hi' : i < tx.length := (List.getElem?_eq_some_iff.mp hcc).1
          dsimp only at hE hY hs3
          obtain ⟨TT, rfl⟩ := hE
          rintro v h2 tk ⟨T4, t4, rfl, hT4⟩ F
          clear NN FF N1
          ktu_objs
          dsimp only [kstB] at F ⊢
          k_steps
          refine ⟨?_⟩
          rename News _ _ _ ((_, _) :: (_, _) :: (_, _) :: (_, _) :: (_, _) :: (_, instObj 411 _) :: _) => NN
          have hzl : ((rolesOf tx).zip tx).length = tx.length := by rw [List.length_zip, show (rolesOf tx).length = tx.length from roles_len _ _, Nat.min_self]
          have hsl : s3.found.length = i := by rw [hs3, layAll_len, List.length_take, hzl]; omega
          have hsn : s3.next = ((rolesOf tx).take i).countP isFig := by
            rw [hs3, layAll_next, List.map_take, List.map_fst_zip (by rw [show (rolesOf tx).length = tx.length from roles_len _ _]; exact Nat.le_refl _)]
          refine' Mut.use5 (m_place w figs neg f _ _ _ s3 _ rr c _ _ ⟨?d1, ?d2, ?d3⟩ (by omega) ⟨_, _, _, layRel_mk rfl rfl rfl rfl, hY, rfl⟩ hrR ?hn (by omega) hcA) ?k1 ?k2 ?k3 NN ?k5 rfl (by omega) (by omega) ?off ?ret
          case d1 => omega
          case d2 => omega
          case d3 => omega
          case hn =>
            intro h
            have hf : isFig rr = true := by rcases h with h | h <;> simp [isFig, h]
            have := fig_room hrr hf
            omega
          case k1 => k_asm
          case k2 => k_asm
          case k3 => k_asm
          case k5 => k_asm
          case off =>
            refine List.forall_mem_cons.mpr ⟨⟨?_, ?_, ?_⟩, List.forall_mem_cons.mpr ⟨⟨?_, ?_, ?_⟩, List.forall_mem_cons.mpr ⟨⟨?_, ?_, ?_⟩, List.forall_mem_cons.mpr ⟨⟨?_, ?_, ?_⟩, List.forall_mem_cons.mpr ⟨⟨?_, ?_, ?_⟩, List.forall_mem_cons.mpr ⟨⟨?_, ?_, ?_⟩, List.forall_mem_cons.mpr ⟨⟨?_, ?_, ?_⟩, fun _ h => nomatch h⟩⟩⟩⟩⟩⟩⟩
            all_goals (show @Ne Nat _ _; dsimp only; omega)
          case ret =>
            clear NN
            intro v9 new9 h9 tk9 F9 N9 P9
            obtain ⟨rfl, es9, js9, n9, hE9, hY9, rfl⟩ := P9
            simp only [List.cons_append, List.nil_append] at N9
            (try dsimp only); (try k_fold)
            k_steps
            refine ⟨?_⟩
            refine' ⟨(es9, (js9, n9), s3.place figs neg f rr c), ?hm, ?hr, rfl, i + 1, ?e, hi', hE9, hY9, ?l⟩
            case hm => intro p hp; cases hp
            case hr =>
              intro z _ hs
              have hs' := hs
              simp only [List.contains_cons, List.contains_nil, Bool.or_false, Bool.or_eq_false_iff, beq_eq_false_iff_ne, ne_eq] at hs'
              simp +zetaDelta only [hs', hs, if_false, Bool.false_eq_true]
            case e => rw [hr2, hr1]
            case l =>
              have hz : ((rolesOf tx).zip tx)[i]? = some (rr, c) := by rw [List.getElem?_zip_eq_some]; exact ⟨hrr, hcc⟩
              rw [List.take_add_one, hz, Option.toList_some, layAll_snoc, ← hs3]
    · refine hret _ [] _ _ _ F4 (fun _ hp => nomatch hp) ⟨_, congrArg (Value.str · _) ?_⟩
      rw [hspec, if_pos hZ]
end
end C_s15_part
section C_pic_part
local macro_rules | `(tactic| walk_at "no key 0") => `(tactic| fail)
set_option maxRecDepth 100000
set_option maxHeartbeats 8000000
set_option rowWalk.seconds 0
theorem init_C_pic : (PySem.Challenge.rw_pb0263_01.Holds → True) ∧ (Mine.hd.heap_1 = Mine.hd.heap_1) := by
  k_fill; exact ⟨fun _ => trivial, rfl⟩
local macro_rules | `(tactic| tb_rel) => `(tactic| ((try simp only [str_len_append, st_length, lit_comma, lit_none, lit_cents, lit_9, List.length_cons, List.length_nil, List.length_append]); omega))
local macro_rules | `(tactic| walk_at "binaryOp Add str str") => `(tactic| (k_here; k_dflt (refine' add_S ?z ?_; (case z => tb_rel); k_whole); intro t' k'; (try dsimp only)))
local macro_rules | `(tactic| walk_at "binaryOp Mult ref int") => `(tactic| (k_here; (with_reducible show wpAny _ _ (binaryOp Operator.Mult (Value.ref _) (Value.int _ _)) _ _ _); k_dflt (refine' KMa.mul ?F ?N ?l ?lo ?hi ?z ?e ?_; (case F => k_asm); (case N => k_asm); (case l => is_list); (case lo => omega); (case hi => omega); (case z => (simp; omega)); (case e => exact rfl); k_whole); intro D' h' F' N' l1; (try k_lt l1); (try k_sweep)))
local macro_rules | `(tactic| walk_at "binaryOp Add ref ref") => `(tactic| (k_here; k_dflt (refine' add_arrays ?F ?N ?l ?b ?_ ?z; (case F => k_asm); (case N => k_asm); (case l => is_list); (case b => is_list); (case z => (simp [sizeLine_eq]; omega)); k_whole); intro h' F' N'; (try k_sweep)))
local macro_rules | `(tactic| walk_at "exec For Tuple Call cons nil") => `(tactic| (k_here; (rename Fr _ _ _ _ => lF'); (with_unfolding_all refine' For_turns lF' ?_; k_whole)))
local macro_rules | `(tactic| walk_at "call type:enumerate") => `(tactic| (k_here; (with_reducible show wpAny _ _ (call (Value.type _) [Value.ref _]) (fun xv s₁ => wpAny _ _ (pyIter xv) (fun it s₂ => TurnsAt _ _ _ _ _ _ _ _ _ it s₂) _ s₁) _ _); k_dflt (refine' ktu_enum ?hh ?F ?N ?hm ?hc ?hd ?hx ?_; (case hh => exact rfl); (case F => k_asm); (case N => k_asm); (case hm => exact List.Mem.head _); (case hc => exact rfl); (case hd => exact rfl); (case hx => exact rfl))))
/-- commas ahead of each third place but the first -/
noncomputable def comma : Nat → List Nat → List Nat
  | _, [] => []
  | i, x :: r => (if 0 < i ∧ i % 3 = 0 then [44, x] else [x]) ++ comma (i + 1) r
theorem comma_len (i : Nat) (l : List Nat) : (comma i l).length ≤ 2 * l.length := by
  induction l generalizing i with
  | nil => simp [comma]
  | cons x r ih =>
    have := ih (i + 1)
    simp only [comma, List.length_append, List.length_cons]
    split <;> simp <;> omega
noncomputable def txts (l : List (Nat × Tok)) : List Value := l.map fun p => .str (St [p.1]) p.2
/-- the picture's text -/
noncomputable def picText (c g k : Nat) (b : Bool) : List Nat :=
  (if c = 36 ∨ c = 43 ∨ c = 45 then [c] else []) ++ comma 0 (List.replicate (3 * g - k) c ++ List.replicate k 57) ++ (if b then [46, 57, 57] else [])
theorem c_picture (w : World) (h : Heap) (c : Nat) (g k : Int) (b : Bool) (t1 t2 t3 : Tok) (hc : c ∈ [90,42,36,43,45,57]) (hg : 2 ≤ g ∧ g ≤ 5) (hk : 0 ≤ k ∧ k ≤ 3 * g) :
    Pure w 6 448 [.str (St [c]) t1, .int g t2, .int k t3, .bool b] h (fun v new => new = [] ∧ ∃ t, v = .str (St (picText c g.toNat k.toNat b)) t) := by
  refine Pure.enter (by k_is) (by k_is) (by exact rfl) (by exact locs rfl) (by decide) ?_ (by exact rfl) (by exact rfl) (by exact rfl) (by decide)
  intro mean mg mb dp un gd outer A₀ base hp₁ gs₁ dr₁ tk₁ os₁ L' Q mF AF EF F' N' B' X' T' hdp hun hret
  ktr_unf
  k_steps
  refine' rest_loop (σ := List Nat × Tok) (fun c => [("text", .str (St c.1) c.2)]) (fun _ => _) ["spot", "place"] (fun xs d => ∃ (i : Nat) (rest : List (Nat × Tok)), xs = enumItems i (txts rest) ∧ i + rest.length ≤ 15 ∧ d.1.length ≤ 2 * i ∧ d.1 ++ comma i (rest.map (·.1)) = comma 0 (List.replicate (3 * g - k).toNat c ++ List.replicate k.toNat 57)) ([], _) ?hm rfl ?hR ?nil ?cons
  case hm => simp only [List.mem_singleton, forall_eq]; exact rfl
  case hR =>
    refine' ⟨0, List.replicate (3 * g - k).toNat (c, t1) ++ List.replicate k.toNat (57, _), ?e, ?a, Nat.zero_le _, ?b⟩
    case e =>
      rw [txts, List.map_append, List.map_replicate, List.map_replicate]
      simp only [List.flatten_replicate_singleton]
      exact rfl
    case a => simp; omega
    case b => simp
  case nil =>
    rintro ⟨tx, t⟩ u h tk ⟨i, rest, hxs, hn, hlen, htx⟩ F N
    dsimp only [kstB] at F htx hlen ⊢
    cases rest with
    | cons y rest => cases hxs
    | nil =>
      simp only [List.map_nil, comma, List.append_nil] at htx
      have hpic : picText c g.toNat k.toNat b = (if c = 36 ∨ c = 43 ∨ c = 45 then [c] else []) ++ tx ++ (if b then [46, 57, 57] else []) := by
        unfold picText
        rw [htx]
        have : (3 * g - k).toNat = 3 * g.toNat - k.toNat := by omega
        rw [this]
      clear htx
      k_steps
      all_goals
        refine hret _ [] _ _ _ (by k_asm) (fun _ hp => nomatch hp) ⟨rfl, _, congrArg (Value.str · _) ?_⟩
        rename (List.any _ _ = _) => hany
        rename (b = _) => hb
        subst hb
        rw [hpic]
        simp only [lit_dollar, lit_plus, lit_minus, List.any_cons, List.any_nil, Bool.or_false, Bool.or_eq_true, Bool.or_eq_false_iff, st_beq, beq_iff_eq, beq_eq_false_iff_ne, List.cons.injEq, and_true, ne_eq] at hany
        (first | rw [if_pos (show c = 36 ∨ c = 43 ∨ c = 45 by omega)] | rw [if_neg (show ¬ (c = 36 ∨ c = 43 ∨ c = 45) by omega)])
        simp [lit_cents, lit_none, st_append]
  case cons =>
    rintro ⟨tx, t⟩ u a r ⟨i, rest, hxs, hn, hlen, htx⟩
    cases rest with
    | nil => cases hxs
    | cons y rest =>
      injection hxs with e1 e2
      subst e1 e2
      rintro v h tk ⟨T, t4, rfl, hT⟩ F
      ktu_objs
      dsimp only [kstB] at *
      simp only [List.length_cons] at hn
      simp only [List.map_cons, comma] at htx
      k_steps
      all_goals
        refine' ⟨(_, _), ?h1, ?h2, rfl, i + 1, rest, rfl, ?h3, ?h4, ?h5⟩
        case h1 =>
          simp only [List.mem_singleton, forall_eq]
          refine congrArg (fun z => some (Value.str z _)) ?_
          simp only [lit_comma, lit_none, st_append]
          exact rfl
        case h2 =>
          intro z hz hs
          simp only [List.mem_singleton, forall_eq] at hz
          have hs' := hs
          simp only [List.contains_cons, List.contains_nil, Bool.or_false, Bool.or_eq_false_iff, beq_eq_false_iff_ne, ne_eq] at hs'
          simp +zetaDelta only [hz, hs'.1, hs'.2, hs, if_false, Bool.false_eq_true]
        case h3 => omega
        case h4 => simp; omega
        case h5 => 
          rw [← htx]
          have hf : (i : Int).fmod 3 = ((i % 3 : Nat) : Int) := by rw [Int.fmod_eq_emod_of_nonneg _ (by decide)]; omega
          (first | rw [if_pos (show 0 < i ∧ i % 3 = 0 by omega)] | rw [if_neg (show ¬ (0 < i ∧ i % 3 = 0) by omega)])
          simp
end C_pic_part
section C_s16_part
set_option maxRecDepth 100000
set_option maxHeartbeats 300000
set_option rowWalk.seconds 0
theorem init_C_s16 : (PySem.Challenge.rw_pb0263_01.Holds → True) ∧ (Mine.hd.heap_1 = Mine.hd.heap_1) := by
  k_fill; exact ⟨fun _ => trivial, rfl⟩
theorem ints_at {vs : List Value} {ns : List Int} (h : IntsAre vs ns) {i : Nat} (hi : i < vs.length) : ∃ x t, vs[i]? = some (.int x t) := by
  induction h generalizing i with
  | nil => exact absurd hi (Nat.not_lt_zero _)
  | cons a t _ ih =>
    cases i with
    | zero => exact ⟨a, t, rfl⟩
    | succ i => obtain ⟨x, t', e⟩ := ih (i := i) (by simpa using hi); exact ⟨x, t', by simpa using e⟩
section
local macro_rules | `(tactic| walk_at "call builtin:len") => `(tactic| (k_here; (with_reducible show wpAny _ _ (call (Value.builtin "len") [Value.ref _]) _ _ _); refine Held.out ?_))
local macro_rules | `(tactic| walk_at "subscriptTail Name Name ref int") => `(tactic| (k_here; refine Held.out ?_))
theorem c_cell (w : World) (h : Heap) (l : Addr) (vs : List Value) (ns : List Int) (i m : Nat) (t1 t2 : Tok) (hl : h.IsList l vs.toArray) (hi : IntsAre vs ns) (hn : ns.length ≤ 40) (hi4 : i ≤ 40) (hm : 0 < m) :
    Pure w 4 434 [.ref l, .int (i : Int) t1, .int (m : Int) t2] h (fun v new => new = [] ∧ ∃ r t, v = .int r t ∧ 0 ≤ r ∧ r < m) := by
  refine Pure.enter (by k_is) (by k_is) (by exact rfl) (by exact locs rfl) (by decide) ?_ (by exact rfl) (by exact rfl) (by exact rfl) (by decide)
  intro mean mg mb dp un gd outer A₀ base hp₁ gs₁ dr₁ tk₁ os₁ L' Q mF AF EF F' N' B' X' T' hdp hun hret
  ktr_unf
  have hz : vs.toArray.size = ns.length := by rw [← hi.length]; simp
  k_steps
  refine ⟨?_⟩
  refine len_list (Fr.lst (by k_asm) hl) (by omega) ?_
  k_steps
  · have hlt : i < vs.length := by rw [hi.length]; omega
    obtain ⟨x, tx, hx⟩ := ints_at hi hlt
    refine ⟨?_⟩
    refine item_list (x := .int x tx) (Fr.lst (by k_asm) hl) (by omega) (by omega) (by rw [Int.toNat_natCast]; simpa using hx) ?_
    k_steps
    refine hret _ [] _ _ _ (by k_asm) (fun _ hp => nomatch hp) ⟨rfl, _, _, rfl, ?_, ?_⟩
    · exact Int.fmod_nonneg_of_pos _ (by omega)
    · exact Int.fmod_lt_of_pos _ (by omega)
  · exact hret _ [] _ _ _ (by k_asm) (fun _ hp => nomatch hp) ⟨rfl, _, _, rfl, Int.le_refl _, by omega⟩
/-- groups of three with commas between -/
noncomputable def grp (l : List Nat) : List Nat := if h : l.length ≤ 3 then l else grp (l.take (l.length - 3)) ++ [44] ++ l.drop (l.length - 3)
termination_by l.length
decreasing_by simp only [List.length_take]; omega
local macro_rules | `(tactic| walk_at "exec While Compare cons nil") => `(tactic| refine Held.out ?_)
local macro_rules | `(tactic| walk_at "eval IfExp") => `(tactic| ((fail_if_success (rename Go 2 => x)); refine Held.out ?_))
local macro_rules | `(tactic| tb_rel) => `(tactic| ((try simp only [str_len_append, st_length, lit_comma, List.length_cons, List.length_nil, List.length_append]); omega))
local macro_rules | `(tactic| walk_at "binaryOp Add str str") => `(tactic| (k_here; k_dflt (refine' add_S ?z ?_; (case z => tb_rel); k_whole); intro t' k'; (try dsimp only)))
theorem c_grouped (w : World) (h : Heap) (l : List Nat) (t1 : Tok) (hl : l.length ≤ 20) :
    Pure w 4 441 [.str (St l) t1] h (fun v new => new = [] ∧ ∃ t, v = .str (St (grp l)) t) := by
  have hL : (St l).length = l.length := st_length _
  refine Pure.enter (by k_is) (by k_is) (by exact rfl) (by exact locs rfl) (by decide) ?_ (by exact rfl) (by exact rfl) (by exact rfl) (by decide)
  intro mean mg mb dp un gd outer A₀ base hp₁ gs₁ dr₁ tk₁ os₁ L' Q mF AF EF F' N' B' X' T' hdp hun hret
  ktr_unf
  k_steps
  refine ⟨?_⟩
  refine mono_str (l.drop (l.length - 3)) (by k_asm) ?A2 ?B2
  case A2 =>
    have go2 : Go 2 := ⟨trivial⟩
    k_steps
    · refine ⟨⟨_, _, _, congrArg (Value.str · _) ?_, rfl, by k_asm⟩⟩
      rw [hL, show ((l.length : Int) - 3) = ((l.length - 3 : Nat) : Int) by omega]
      exact slice_from _ _ (by omega)
    · refine ⟨⟨_, _, _, congrArg (Value.str · _) ?_, rfl, by k_asm⟩⟩
      rw [show l.length - 3 = 0 by omega, List.drop_zero]
  case B2 =>
    clear F'
    intro t8 k8 h8 F8
    have N8 : News h L' h8 [] := fun p hp => nomatch hp
    have go2 : Go 2 := ⟨trivial⟩
    k_steps
    refine ⟨?_⟩
    rename Fr _ _ _ _ => FF
    have el : Txt.slice (St l) none (some (if ((St l).length : Int) - 3 > 0 then ((St l).length : Int) - 3 else 0)) = St (l.take (l.length - 3)) := by
      rw [hL, show (if (l.length : Int) - 3 > 0 then (l.length : Int) - 3 else 0) = ((l.length - 3 : Nat) : Int) by split <;> omega]
      exact slice_to _ _
    dsimp +zetaDelta only at FF
    rw [el] at FF
    clear el
    refine' while_loop (β := Unit) (σ := (List Nat × Tok) × (List Nat × Tok)) () (fun _ _ => []) (fun _ c => [("found", .str (St c.1.1) c.1.2), ("left", .str (St c.2.1) c.2.2)]) [] (fun _ c => c.1.1.length + 2 * c.2.1.length ≤ 40 ∧ grp l = (if c.2.1 = [] then c.1.1 else grp c.2.1 ++ [44] ++ c.1.1)) (fun c => c.2.1.length) ((l.drop (l.length - 3), _), (l.take (l.length - 3), _)) FF ?N ?hk ?hp ?turn
    case N => k_asm
    case hk =>
      refine List.forall_mem_cons.mpr ⟨?_, List.forall_mem_cons.mpr ⟨?_, fun _ h => nomatch h⟩⟩
      · exact rfl
      · exact rfl
    case hp =>
      refine ⟨?_, ?_⟩
      · simp only [List.length_drop, List.length_take]; omega
      · (try dsimp only)
        rw [grp]
        split
        · rename l.length ≤ 3 => h3
          rw [show l.length - 3 = 0 by omega, List.take_zero, List.drop_zero, if_pos rfl]
        · rename ¬ l.length ≤ 3 => h3
          rw [if_neg (by intro e; have := congrArg List.length e; simp at this; omega)]
    case turn =>
      rintro ⟨⟨fd, tf⟩, ⟨lf, tl⟩⟩ m h2 tk ⟨h1, h3⟩ F N
      clear FF
      dsimp only [kstB] at F N h1 h3 ⊢
      have hLf : (St lf).length = lf.length := st_length _
      have hFd : (St fd).length = fd.length := st_length _
      have hlf : (if (lf.length : Int) - 3 > 0 then (lf.length : Int) - 3 else 0) = ((lf.length - 3 : Nat) : Int) := by split <;> omega
      have e1 : Txt.slice (St lf) (some (if ((St lf).length : Int) - 3 > 0 then ((St lf).length : Int) - 3 else 0)) none = St (lf.drop (lf.length - 3)) := by
        rw [hLf, hlf]; exact slice_from _ _ (by omega)
      have e2 : Txt.slice (St lf) none (some (if ((St lf).length : Int) - 3 > 0 then ((St lf).length : Int) - 3 else 0)) = St (lf.take (lf.length - 3)) := by
        rw [hLf, hlf]; exact slice_to _ _
      k_steps
      · rename ((_ != _) = true) => hne
        rw [lit_none, bne, st_beq, Bool.not_eq_true', beq_eq_false_iff_ne] at hne
        rename Fr _ _ _ _ => FF
        dsimp +zetaDelta only at FF
        rw [e1, e2, lit_comma, st_append, st_append] at FF
        (try dsimp only)
        refine ⟨?_⟩
        refine' ksw_end ((lf.drop (lf.length - 3) ++ [44] ++ fd, _), (lf.take (lf.length - 3), _)) FF ?N (fun p hp => hp) trivial ?hk ?_ ⟨?_, ?_⟩ ?_
        case N => k_asm
        case hk =>
          refine List.forall_mem_cons.mpr ⟨?_, List.forall_mem_cons.mpr ⟨?_, fun _ h => nomatch h⟩⟩
          · exact rfl
          · exact rfl
        · intro z hz hs
          simp only [List.mem_cons, List.not_mem_nil, or_false, forall_eq_or_imp, forall_eq] at hz
          simp only [hz.1, hz.2, if_false]
          simp
        · have : 0 < lf.length := List.length_pos_iff.mpr hne
          simp only [List.length_append, List.length_drop, List.length_take, List.length_singleton]
          omega
        · (try dsimp only)
          rw [h3, if_neg hne, grp]
          split
          · rename lf.length ≤ 3 => hl3
            rw [show lf.length - 3 = 0 by omega, List.take_zero, List.drop_zero, if_pos rfl]
          · rename ¬ lf.length ≤ 3 => hl3
            rw [if_neg (by intro e; have := congrArg List.length e; simp at this; omega)]
            simp only [List.append_assoc]
        · show (lf.take (lf.length - 3)).length < lf.length
          have : 0 < lf.length := List.length_pos_iff.mpr hne
          simp only [List.length_take]; omega
      · rename ((_ != _) = false) => hne
        rw [lit_none, bne, st_beq, Bool.not_eq_false', beq_iff_eq] at hne
        rw [if_pos hne] at h3
        exact hret _ [] _ _ _ (by k_asm) (fun _ hp => nomatch hp) ⟨rfl, _, congrArg (Value.str · _) (congrArg St h3.symm)⟩
end
end C_s16_part
section C_s17_part
local macro_rules | `(tactic| walk_at "no key 0") => `(tactic| fail)
set_option maxRecDepth 100000
set_option maxHeartbeats 300000
set_option rowWalk.seconds 0
theorem init_C_s17 : (PySem.Challenge.rw_pb0263_01.Holds → True) ∧ (Mine.hd.heap_1 = Mine.hd.heap_1) := by
  k_fill; exact ⟨fun _ => trivial, rfl⟩
noncomputable def dueSpec (c sz k : Nat) (b : Bool) (U : Int) : List Nat :=
  if U = 0 ∧ k = 0 ∧ b = false then List.replicate sz (if c = 42 then 42 else 32)
  else
    let tx := grp (figsOf k (if b then U.natAbs / 100 else U.natAbs)) ++ (if b then [46, 48 + U.natAbs % 100 / 10, 48 + U.natAbs % 100 % 10] else [])
    let t2 := if c = 36 then [36] ++ tx else if c = 43 ∨ c = 45 then [signTxt c (decide (U < 0))] ++ tx else tx
    List.replicate (sz - t2.length) (if c = 42 then 42 else 32) ++ t2
theorem abs_nat (U : Int) : (if U < 0 then -U else U) = ((U.natAbs : Nat) : Int) := by split <;> omega
theorem abs_mod100 (U : Int) : (if U < 0 then -U else U).fmod 100 = (((if true = true then U.natAbs % 100 else 0 : Nat)) : Int) := by
  rw [if_pos rfl, abs_nat, Int.fmod_eq_emod_of_nonneg _ (by decide)]; omega
theorem abs_div100 (U : Int) : (if U < 0 then -U else U).fdiv 100 = (((if true = true then U.natAbs / 100 else U.natAbs : Nat)) : Int) := by
  rw [if_pos rfl, abs_nat, Int.fdiv_eq_ediv_of_nonneg _ (by decide)]; omega
theorem fin_eq (X : List Nat) (sz f : Nat) : St (List.replicate ((sz : Int) - ((St X).length : Int)).toNat f) ++ St X = St (List.replicate (sz - X.length) f ++ X) := by
  rw [st_append, st_length, show ((sz : Int) - (X.length : Int)).toNat = sz - X.length by omega]
theorem grp_len (l : List Nat) : (grp l).length ≤ 2 * l.length := by
  generalize hn : l.length = n
  induction n using Nat.strongRecOn generalizing l with
  | _ n ih =>
    rw [grp]
    split
    · omega
    · have := ih (l.length - 3) (by omega) (l.take (l.length - 3)) (by rw [List.length_take]; omega)
      simp only [List.length_append, List.length_drop, List.length_singleton]
      omega
section
local macro_rules | `(tactic| walk_at "eval IfExp") => `(tactic| ((fail_if_success (rename Go 2 => x)); refine Held.out ?_))
local macro_rules | `(tactic| walk_at "call type:str") => `(tactic| refine Held.out ?_)
local macro_rules | `(tactic| walk_at "call ref") => `(tactic| (k_here; refine Held.out ?_))
local macro_rules | `(tactic| walk_at "binaryOp Mult str int") => `(tactic| refine Held.out ?_)
local macro_rules | `(tactic| tb_rel) => `(tactic| ((try simp only [str_len_append, st_length, lit_comma, List.length_cons, List.length_nil, List.length_append, List.length_replicate]); omega))
local macro_rules | `(tactic| walk_at "binaryOp Add str str") => `(tactic| (k_here; k_dflt (refine' add_S ?z ?_; (case z => tb_rel); k_whole); intro t' k'; (try dsimp only)))
local macro_rules | `(tactic| walk_at "exec If") => `(tactic| ((fail_if_success (rename Go 1 => x)); refine Held.out ?_))
set_option maxHeartbeats 6000000 in
theorem c_due (w : World) (h : Heap) (c sz k : Nat) (b : Bool) (U : Int) (t1 t2 t3 t4 : Tok) (hsz : sz ≤ 30) (hk : k ≤ 15) (hU : U.natAbs < 10 ^ 17) :
    Pure w 8 455 [.str (St [c]) t1, .int (sz : Int) t2, .int (k : Int) t3, .bool b, .int U t4] h (fun v new => ∃ t, v = .str (St (dueSpec c sz k b U)) t) := by
  refine Pure.enter (by k_is) (by k_is) (by exact rfl) (by exact locs rfl) (by decide) ?_ (by exact rfl) (by exact rfl) (by exact rfl) (by decide)
  intro mean mg mb dp un gd outer A₀ base hp₁ gs₁ dr₁ tk₁ os₁ L' Q mF AF EF F' N' B' X' T' hdp hun hret
  ktr_unf
  k_steps
  refine ⟨?_⟩
  refine mono_int (((if b then U.natAbs % 100 else 0 : Nat)) : Int) (by k_asm) ?A1 ?B1
  case A1 =>
    have go2 : Go 2 := ⟨trivial⟩
    k_steps
    · rename (b = true) => hb
      subst hb
      exact ⟨⟨_, _, _, congrArg (Value.int · _) (abs_mod100 U), rfl, by k_asm⟩⟩
    · rename (b = false) => hb
      subst hb
      exact ⟨⟨_, _, _, rfl, rfl, by k_asm⟩⟩
  case B1 =>
    intro t8 k8 h8 F8
    have N8 : News h L' h8 [] := fun p hp => nomatch hp
    k_steps
    refine ⟨?_⟩
    refine mono_int (((if b then U.natAbs / 100 else U.natAbs : Nat)) : Int) (by k_asm) ?A1 ?B1
    case A1 =>
      have go2 : Go 2 := ⟨trivial⟩
      k_steps
      · rename (b = true) => hb
        subst hb
        exact ⟨⟨_, _, _, congrArg (Value.int · _) (abs_div100 U), rfl, by k_asm⟩⟩
      · rename (b = false) => hb
        subst hb
        exact ⟨⟨_, _, _, congrArg (Value.int · _) (abs_nat U), rfl, by k_asm⟩⟩
    case B1 =>
      intro t8 k8 h8 F8
      have N8 : News h L' h8 [] := fun p hp => nomatch hp
      k_steps
      refine ⟨?_⟩
      refine mono_str [if c = 42 then 42 else 32] (by k_asm) ?A1 ?B1
      case A1 =>
        have go2 : Go 2 := ⟨trivial⟩
        k_steps
        · rename ((_ == _) = true) => he
          rw [lit_star, st_beq, beq_iff_eq] at he
          injection he with he
          refine ⟨⟨_, _, _, congrArg (Value.str · _) ?_, rfl, by k_asm⟩⟩
          rw [if_pos he]; exact lit_star
        · rename ((_ == _) = false) => he
          rw [lit_star, st_beq, beq_eq_false_iff_ne] at he
          refine ⟨⟨_, _, _, congrArg (Value.str · _) ?_, rfl, by k_asm⟩⟩
          rw [if_neg (fun e => he (by rw [e]))]; exact lit_blank
      case B1 =>
        intro t8 k8 h8 F8
        have N8 : News h L' h8 [] := fun p hp => nomatch hp
        k_steps
        refine ⟨?_⟩
        have hspec : dueSpec c sz k b U = if U = 0 ∧ k = 0 ∧ b = false then List.replicate sz (if c = 42 then 42 else 32) else
            List.replicate (sz - (if c = 36 then [36] ++ (grp (figsOf k (if b then U.natAbs / 100 else U.natAbs)) ++ (if b then [46, 48 + (if b then U.natAbs % 100 else 0) / 10, 48 + (if b then U.natAbs % 100 else 0) % 10] else [])) else if c = 43 ∨ c = 45 then [signTxt c (decide (U < 0))] ++ (grp (figsOf k (if b then U.natAbs / 100 else U.natAbs)) ++ (if b then [46, 48 + (if b then U.natAbs % 100 else 0) / 10, 48 + (if b then U.natAbs % 100 else 0) % 10] else [])) else (grp (figsOf k (if b then U.natAbs / 100 else U.natAbs)) ++ (if b then [46, 48 + (if b then U.natAbs % 100 else 0) / 10, 48 + (if b then U.natAbs % 100 else 0) % 10] else []))).length) (if c = 42 then 42 else 32) ++ (if c = 36 then [36] ++ (grp (figsOf k (if b then U.natAbs / 100 else U.natAbs)) ++ (if b then [46, 48 + (if b then U.natAbs % 100 else 0) / 10, 48 + (if b then U.natAbs % 100 else 0) % 10] else [])) else if c = 43 ∨ c = 45 then [signTxt c (decide (U < 0))] ++ (grp (figsOf k (if b then U.natAbs / 100 else U.natAbs)) ++ (if b then [46, 48 + (if b then U.natAbs % 100 else 0) / 10, 48 + (if b then U.natAbs % 100 else 0) % 10] else [])) else (grp (figsOf k (if b then U.natAbs / 100 else U.natAbs)) ++ (if b then [46, 48 + (if b then U.natAbs % 100 else 0) / 10, 48 + (if b then U.natAbs % 100 else 0) % 10] else []))) := by
          cases b <;> rfl
        have hwl : (if b then U.natAbs / 100 else U.natAbs) < 10 ^ 17 := by split <;> omega
        have hcl : (if b then U.natAbs % 100 else 0) < 100 := by split <;> omega
        rename Fr _ _ _ _ => FFz
        dsimp +zetaDelta only at FFz
        generalize hff : (if c = 42 then 42 else 32) = f at *
        generalize hwh : (if b then U.natAbs / 100 else U.natAbs) = wh at *
        generalize hct : (if b then U.natAbs % 100 else 0) = ct at *
        generalize htl : (if b then [46, 48 + ct / 10, 48 + ct % 10] else []) = tl at *
        refine fr_named FFz ?_
        clear FFz
        intro mz Fz
        have htl3 : tl.length ≤ 3 := by rw [← htl]; split <;> simp
        refine mono_if (h₀ := h) (L := L') (U = 0 ∧ k = 0 ∧ b = false) (List.replicate sz f) ?A1 ?B1 ?B2
        case A1 =>
          have go1 : Go 1 := ⟨trivial⟩
          have hb' : ∀ {x y : Bool}, x = y → y ≠ false → x ≠ false := fun e n => e ▸ n
          k_steps
          · rename (b = true) => hb
            exact ⟨.inl ⟨rfl, (fun h => by rw [hb] at h; exact absurd h.2.2 (by decide)), _, rfl⟩⟩
          · refine ⟨?_⟩
            refine mul_T rfl (by omega) (by omega) ?_
            intro t' k'
            k_steps
            exact ⟨.inr ⟨⟨by assumption, by omega, by assumption⟩, _, _, _, _, rfl, rfl, by k_asm⟩⟩
          · exact ⟨.inl ⟨rfl, (fun h => by omega), _, rfl⟩⟩
          · exact ⟨.inl ⟨rfl, (fun h => by omega), _, rfl⟩⟩
        case B2 =>
          intro hZ t' k' h4 m4 F4
          refine hret _ [] _ _ _ F4 (fun _ hp => nomatch hp) ⟨_, congrArg (Value.str · _) ?_⟩
          rw [hspec, if_pos hZ]
        case B1 =>
          intro hZ k9
          k_steps
          refine ⟨?_⟩
          refine mono_str (if wh = 0 then [] else digs wh) (by k_asm) ?A1 ?B1
          case A1 =>
            have go2 : Go 2 := ⟨trivial⟩
            k_steps
            · refine ⟨?_⟩
              refine str_T (Nat.lt_trans hwl (by decide)) ?_
              k_steps
              refine ⟨⟨_, _, _, congrArg (Value.str · _) ?_, rfl, by k_asm⟩⟩
              rw [if_neg (by omega)]
            · refine ⟨⟨_, _, _, congrArg (Value.str · _) ?_, rfl, by k_asm⟩⟩
              rw [if_pos (by omega)]; exact lit_none
          case B1 =>
            have hdz : (if wh = 0 then [] else digs wh).length ≤ 17 := by
              split
              · exact Nat.zero_le _
              · exact digs_len 17 wh hwl (by decide)
            have hfg : List.replicate (k - (if wh = 0 then [] else digs wh).length) 48 ++ (if wh = 0 then [] else digs wh) = figsOf k wh := rfl
            generalize (if wh = 0 then [] else digs wh) = dz at *
            have hDz : (St dz).length = dz.length := st_length _
            intro t8 k8 h8 F8
            have N8 : News h L' h8 [] := fun p hp => nomatch hp
            k_steps
            refine ⟨?_⟩
            refine mul_T lit_0 (by omega) (by omega) ?_
            intro t' k'
            k_steps
            refine ⟨?_⟩
            have ecat : St (List.replicate ((k : Int) - ((St dz).length : Int)).toNat 48) ++ St dz = St (figsOf k wh) := by
              rw [st_append, hDz, ← hfg, show ((k : Int) - (dz.length : Int)).toNat = k - dz.length by omega]
            have hfl : (figsOf k wh).length ≤ 20 := by
              rw [← hfg, List.length_append, List.length_replicate]; omega
            rename Fr _ _ _ _ => FF
            (try rw [ecat] at FF)
            rw [ecat]
            refine' Pure.use (c_grouped _ _ (figsOf k wh) _ hfl) ?k1 FF ?k3 ?k4 ?k5 rfl (by omega) (by omega) ?_
            case k1 => k_asm
            case k3 => k_asm
            case k4 => k_asm
            case k5 => k_asm
            clear FF
            intro v9 new9 h9 tk9 F9 N9 D9 P9
            obtain ⟨rfl, t9, rfl⟩ := P9
            simp only [List.nil_append] at N9
            (try dsimp only); (try k_fold)
            clear D9
            k_steps
            refine ⟨?_⟩
            refine mono_str tl (by k_asm) ?A1 ?B1
            case A1 =>
              have go2 : Go 2 := ⟨trivial⟩
              have ed1 : ((ct : Nat) : Int).fdiv 10 = ((ct / 10 : Nat) : Int) := by rw [Int.fdiv_eq_ediv_of_nonneg _ (by decide)]; omega
              have ed2 : ((ct : Nat) : Int).fmod 10 = ((ct % 10 : Nat) : Int) := by rw [Int.fmod_eq_emod_of_nonneg _ (by decide)]; omega
              have hd1 : (St (digs (ct / 10))).length = 1 := by rw [digs_small (by omega)]; rfl
              have hd2 : (St (digs (ct % 10))).length = 1 := by rw [digs_small (by omega)]; rfl
              have hdp1 : (Str.ofString ".").length = 1 := by decide
              k_steps
              · rename (b = true) => hb
                refine ⟨?_⟩
                rw [ed1]
                refine str_T (by omega) ?_
                k_steps
                refine ⟨?_⟩
                rw [ed2]
                refine str_T (by omega) ?_
                k_steps
                refine ⟨⟨_, _, _, congrArg (Value.str · _) ?_, rfl, by k_asm⟩⟩
                rw [lit_point, st_append, st_append, digs_small (by omega), digs_small (by omega), ← htl, if_pos hb]
                rfl
              · rename (b = false) => hb
                refine ⟨⟨_, _, _, congrArg (Value.str · _) ?_, rfl, by k_asm⟩⟩
                rw [← htl, if_neg (by rw [hb]; decide)]; exact lit_none
            case B1 =>
              have hgl : (grp (figsOf k wh)).length ≤ 40 := Nat.le_trans (grp_len _) (by omega)
              intro t8 k8 h8 F8
              have N8 : News h L' h8 [] := fun p hp => nomatch hp
              have go1 : Go 1 := ⟨trivial⟩
              have hGl : (St (grp (figsOf k wh))).length = (grp (figsOf k wh)).length := st_length _
              have hTl : (St tl).length = tl.length := st_length _
              have hb1 : (Str.ofString "$").length = 1 := by decide
              show wpAny _ _ _ _ _ _
              have hb2 : (St (List.replicate 0 f)).length = 0 := rfl
              k_steps
              · exfalso
                rename ((_ == _) = true) => he
                rename (List.any _ _ = true) => hany
                rw [lit_dollar, st_beq, beq_iff_eq] at he
                injection he with he
                subst he
                rw [lit_plus, lit_minus] at hany
                exact absurd hany (by decide)
              · rename ((_ == _) = true) => he
                rw [lit_dollar, st_beq, beq_iff_eq] at he
                injection he with he
                refine ⟨?_⟩
                refine mul_T rfl (by tb_rel) (by tb_rel) ?_
                intro t' k'
                k_steps
                refine hret _ [] _ _ _ (by k_asm) (fun _ hp => nomatch hp) ⟨_, congrArg (Value.str · _) ?_⟩
                rw [hspec, if_neg hZ, if_pos he, lit_dollar, st_append, st_append]
                rw [st_append]
                refine congrArg (fun n => St (List.replicate n f ++ _)) ?_
                simp only [str_len_append, st_length, List.length_append, List.length_cons, List.length_nil]
                omega
              · rename ((_ == _) = false) => he
                rename (List.any _ _ = true) => hany
                rw [lit_dollar, st_beq, beq_eq_false_iff_ne] at he
                rw [lit_plus, lit_minus] at hany
                have hpm : c = 43 ∨ c = 45 := by
                  simp only [List.any_cons, List.any_nil, st_beq, Bool.or_eq_true, beq_iff_eq, List.cons.injEq, Bool.or_false, and_true] at hany
                  omega
                refine ⟨?_⟩
                refine mono_str [signTxt c (decide (U < 0))] (by k_asm) ?A1 ?B1
                case A1 =>
                  have go2 : Go 2 := ⟨trivial⟩
                  k_steps
                  · rename (U < 0) => hneg
                    refine ⟨⟨_, _, _, congrArg (Value.str · _) ?_, rfl, by k_asm⟩⟩
                    rw [decide_eq_true hneg]
                    rcases hpm with rfl | rfl <;> exact lit_minus
                  · rename (¬ U < 0) => hneg
                    rename ((_ == _) = true) => hs
                    rw [lit_plus, st_beq, beq_iff_eq] at hs
                    injection hs with hs
                    refine ⟨⟨_, _, _, congrArg (Value.str · _) ?_, rfl, by k_asm⟩⟩
                    rw [decide_eq_false hneg, hs]; exact lit_plus
                  · rename (¬ U < 0) => hneg
                    rename ((_ == _) = false) => hs
                    rw [lit_plus, st_beq, beq_eq_false_iff_ne] at hs
                    have h45 : c = 45 := hpm.resolve_left fun e => hs (by rw [e])
                    refine ⟨⟨_, _, _, congrArg (Value.str · _) ?_, rfl, by k_asm⟩⟩
                    rw [decide_eq_false hneg, h45]; exact lit_blank
                case B1 =>
                  intro t8 k8 h8 F8
                  have N8 : News h L' h8 [] := fun p hp => nomatch hp
                  have hb3 : (St [signTxt c (decide (U < 0))]).length = 1 := rfl
                  show wpAny _ _ _ _ _ _
                  k_steps
                  refine ⟨?_⟩
                  refine mul_T rfl (by tb_rel) (by tb_rel) ?_
                  intro t' k'
                  k_steps
                  refine hret _ [] _ _ _ (by k_asm) (fun _ hp => nomatch hp) ⟨_, congrArg (Value.str · _) ?_⟩
                  rw [hspec, if_neg hZ, if_neg (fun e => he (by rw [e])), if_pos hpm, st_append, st_append]
                  rw [st_append]
                  refine congrArg (fun n => St (List.replicate n f ++ _)) ?_
                  simp only [str_len_append, st_length, List.length_append, List.length_cons, List.length_nil]
                  omega
              · rename ((_ == _) = false) => he
                rename (List.any _ _ = false) => hany
                rw [lit_dollar, st_beq, beq_eq_false_iff_ne] at he
                rw [lit_plus, lit_minus] at hany
                have hpm : ¬ (c = 43 ∨ c = 45) := by
                  simp only [List.any_cons, List.any_nil, st_beq, Bool.or_eq_false_iff, beq_eq_false_iff_ne, ne_eq, List.cons.injEq, and_true] at hany
                  omega
                refine ⟨?_⟩
                refine mul_T rfl (by tb_rel) (by tb_rel) ?_
                intro t' k'
                k_steps
                refine hret _ [] _ _ _ (by k_asm) (fun _ hp => nomatch hp) ⟨_, congrArg (Value.str · _) ?_⟩
                rw [hspec, if_neg hZ, if_neg (fun e => he (by rw [e])), if_neg hpm, st_append]
                exact fin_eq _ _ _
end
end C_s17_part
section PicF_part
set_option maxRecDepth 100000
/-- the role of a picture's filling sign -/
noncomputable def roleC (c : Nat) : List Nat := if c = 90 then rl "zero" else if c = 42 then rl "star" else rl "float"
/-- the whole part's places -/
noncomputable def intP (a : Nat) (R : List Nat) (c : Nat) : Nat → Nat → List (List Nat × Nat)
  | _, 0 => []
  | i, m + 1 => (if 0 < i ∧ i % 3 = 0 then [(rl "insert", 44)] else []) ++ (if i < a then (R, c) else (rl "figure", 57)) :: intP a R c (i + 1) m
noncomputable def isLead (c : Nat) : Bool := c == 36 || c == 43 || c == 45
noncomputable def zipP (c g k : Nat) (b : Bool) : List (List Nat × Nat) :=
  (if isLead c then [(rl "lead", c)] else []) ++ intP (3 * g - k) (roleC c) c 0 (3 * g) ++ (if b then [(rl "point", 46), (rl "figure", 57), (rl "figure", 57)] else [])
noncomputable def CS : List Nat := [90, 42, 36, 43, 45]
noncomputable def okP (c g k : Nat) (b : Bool) : Bool := decide ((rolesOf (picText c g k b)).zip (picText c g k b) = zipP c g k b)
theorem pics1 : ∀ c ∈ CS, ∀ g ∈ [2, 3, 4, 5], ∀ k ∈ [0, 1, 2, 3, 4], ∀ b, okP c g k b = true := by decide +kernel
theorem pics2 : ∀ g ∈ [2, 3, 4, 5], ∀ b, okP 57 g (3 * g) b = true := by decide +kernel
end PicF_part
section Lay1_part
local macro_rules | `(tactic| walk_at "no key 0") => `(tactic| fail)
set_option maxRecDepth 100000
noncomputable def ones (l : List Nat) : List (List Nat) := l.map fun c => [c]
theorem ones_app (a b : List Nat) : ones (a ++ b) = ones a ++ ones b := List.map_append
/-- figures from a place on, as they stand once they count -/
noncomputable def ct (D : List Nat) : Nat → Nat → List Nat
  | _, 0 => []
  | i, m + 1 => (if 0 < i ∧ i % 3 = 0 then [44] else []) ++ D.getD i 0 :: ct D (i + 1) m
/-- figures from the first that counts on -/
noncomputable def vb (D : List Nat) (a : Nat) : Nat → Nat → List Nat
  | _, 0 => []
  | i, m + 1 => if i < a ∧ D.getD i 0 = 48 then vb D a (i + 1) m else D.getD i 0 :: ct D (i + 1) m
variable {D : List Nat} {neg : Bool} {F : Nat}
noncomputable abbrev run (D : List Nat) (neg : Bool) (F : Nat) (ps : List (List Nat × Nat)) (s : LS) : LS := ps.foldl (fun s p => s.place D neg F p.1 p.2) s
theorem place_fig {r : List Nat} {c : Nat} {s : LS} (h : r = rl "figure" ∨ LS.supp r = true) : s.place D neg F r c = s.fig D F r := by rw [LS.place, if_pos h]
theorem ins_on {c : Nat} {s : LS} (h : s.cnt = true) : s.place D neg F (rl "insert") c = { s with found := s.found ++ [[c]] } := by
  rw [LS.place, if_neg (by decide +kernel), if_neg (by decide +kernel), if_pos rfl, if_neg (by rw [h]; simp)]
theorem ins_off {c : Nat} {s : LS} (h : s.cnt = false) (h2 : s.beg = true) : s.place D neg F (rl "insert") c = s.suppress F := by
  rw [LS.place, if_neg (by decide +kernel), if_neg (by decide +kernel), if_pos rfl, if_pos ⟨h2, h⟩]
theorem point_at {c : Nat} {s : LS} : s.place D neg F (rl "point") c = { s with cnt := true, found := s.found ++ [[c]] } := by
  rw [LS.place, if_neg (by decide +kernel), if_neg (by decide +kernel), if_neg (by decide +kernel), if_neg (by decide +kernel)]
theorem lead_at {c : Nat} {s : LS} : s.place D neg F (rl "lead") c = LS.suppress F { s with beg := true } := by
  rw [LS.place, if_neg (by decide +kernel), if_pos rfl]
theorem fig_is_on {r : List Nat} {s : LS} (h : s.cnt = true ∨ r = rl "figure" ∨ D.getD s.next 0 ≠ 48) : s.fig D F r = ⟨s.next + 1, s.found ++ [[D.getD s.next 0]], true, s.beg || LS.supp r, s.spot⟩ := by
  have hc : (s.cnt || (decide (r = rl "figure") || !decide (D.getD s.next 0 = 48))) = true := by
    rcases h with h | h | h
    · rw [h, Bool.true_or]
    · rw [decide_eq_true h, Bool.true_or, Bool.or_true]
    · rw [decide_eq_false h, Bool.not_false, Bool.or_true, Bool.or_true]
  unfold LS.fig
  dsimp only
  rw [if_pos hc, hc]
theorem fig_is_off {r : List Nat} {s : LS} (h1 : s.cnt = false) (h2 : r ≠ rl "figure") (h3 : D.getD s.next 0 = 48) : s.fig D F r = ⟨s.next + 1, s.found ++ [[F]], false, s.beg || LS.supp r, s.found.length⟩ := by
  have hc : (s.cnt || (decide (r = rl "figure") || !decide (D.getD s.next 0 = 48))) = false := by rw [h1, decide_eq_false h2, decide_eq_true h3]; rfl
  rw [fig_off hc]; rfl
variable {a c : Nat} {R : List Nat}
theorem run_cnt (hR : LS.supp R = true) : ∀ (m i : Nat) (s : LS), s.cnt = true → s.next = i → ∃ bg, run D neg F (intP a R c i m) s = ⟨i + m, s.found ++ ones (ct D i m), true, bg, s.spot⟩
  | 0, i, s, h, hn => ⟨s.beg, by
    obtain ⟨nx, fd, cn, bg, sp⟩ := s
    dsimp only at h hn
    subst h hn
    simp [run, intP, ct, ones]⟩
  | m + 1, i, s, h, hn => by
    have hf : (if i < a then (R, c) else (rl "figure", 57)).1 = rl "figure" ∨ LS.supp (if i < a then (R, c) else (rl "figure", 57)).1 = true := by
      split
      · exact .inr hR
      · exact .inl rfl
    have step : ∀ s1 : LS, s1.cnt = true → s1.next = i → ∃ bg, run D neg F ((if i < a then (R, c) else (rl "figure", 57)) :: intP a R c (i + 1) m) s1 = ⟨i + (m + 1), s1.found ++ ones (D.getD i 0 :: ct D (i + 1) m), true, bg, s1.spot⟩ := by
      intro s1 h1 h2
      obtain ⟨bg, e⟩ := run_cnt hR m (i + 1) ⟨i + 1, s1.found ++ [[D.getD i 0]], true, s1.beg || LS.supp (if i < a then (R, c) else (rl "figure", 57)).1, s1.spot⟩ rfl rfl
      refine ⟨bg, ?_⟩
      rw [run, List.foldl_cons, place_fig hf, fig_is_on (.inl h1), h2]
      refine e.trans ?_
      simp only [LS.mk.injEq, true_and, and_true]
      exact ⟨by omega, by simp [ones]⟩
    unfold intP ct
    split
    · obtain ⟨bg, e⟩ := step { s with found := s.found ++ [[44]] } h hn
      refine ⟨bg, ?_⟩
      show run D neg F (_ :: intP a R c (i + 1) m) (s.place D neg F (rl "insert") 44) = _
      rw [ins_on h]
      refine e.trans ?_
      simp [ones]
    · exact step s h hn
theorem run_quiet (hR : LS.supp R = true) (hRf : R ≠ rl "figure") : ∀ (m i : Nat) (s : LS), s.cnt = false → s.next = i → (0 < i → s.beg = true) →
    ∃ p cn bg sp, run D neg F (intP a R c i m) s = ⟨i + m, s.found ++ List.replicate p [F] ++ ones (vb D a i m), cn, bg, sp⟩ ∧ (p = 0 ∧ sp = s.spot ∨ 0 < p ∧ sp = ((s.found.length + p - 1 : Nat) : Int))
  | 0, i, s, h, hn, _ => ⟨0, s.cnt, s.beg, s.spot, by
    obtain ⟨nx, fd, cn, bg, sp⟩ := s
    dsimp only at h hn
    subst h hn
    simp [run, intP, vb, ones], .inl ⟨rfl, rfl⟩⟩
  | m + 1, i, s, h, hn, hb => by
    have hf : (if i < a then (R, c) else (rl "figure", 57)).1 = rl "figure" ∨ LS.supp (if i < a then (R, c) else (rl "figure", 57)).1 = true := by
      split
      · exact .inr hR
      · exact .inl rfl
    have step : ∀ s1 : LS, s1.cnt = false → s1.next = i → ∃ p cn bg sp, run D neg F ((if i < a then (R, c) else (rl "figure", 57)) :: intP a R c (i + 1) m) s1 = ⟨i + (m + 1), s1.found ++ List.replicate p [F] ++ ones (vb D a i (m + 1)), cn, bg, sp⟩ ∧ (p = 0 ∧ sp = s1.spot ∨ 0 < p ∧ sp = ((s1.found.length + p - 1 : Nat) : Int)) := by
      intro s1 h1 h2
      by_cases hq : i < a ∧ D.getD i 0 = 48
      · have hr : (if i < a then (R, c) else (rl "figure", 57)).1 = R := by rw [if_pos hq.1]
        obtain ⟨p, cn, bg, sp, e, hsp⟩ := run_quiet hR hRf m (i + 1) ⟨i + 1, s1.found ++ [[F]], false, s1.beg || LS.supp R, s1.found.length⟩ rfl rfl (fun _ => by simp [hR])
        refine ⟨p + 1, cn, bg, sp, ?_, .inr ⟨by omega, ?_⟩⟩
        · rw [run, List.foldl_cons, place_fig hf, hr, fig_is_off h1 hRf (by rw [h2]; exact hq.2), h2]
          refine e.trans ?_
          rw [vb, if_pos hq]
          simp only [LS.mk.injEq, true_and, and_true]
          refine ⟨by omega, ?_⟩
          simp [List.replicate_succ]
        · rcases hsp with ⟨e1, e2⟩ | ⟨e1, e2⟩
          · rw [e2, e1]; simp
          · rw [e2]
            simp only [List.length_append, List.length_singleton]
            omega
      · obtain ⟨bg, e⟩ := run_cnt (D := D) (neg := neg) (F := F) (a := a) (c := c) hR m (i + 1) ⟨i + 1, s1.found ++ [[D.getD i 0]], true, s1.beg || LS.supp (if i < a then (R, c) else (rl "figure", 57)).1, s1.spot⟩ rfl rfl
        refine ⟨0, true, bg, s1.spot, ?_, .inl ⟨rfl, rfl⟩⟩
        have hon : s1.cnt = true ∨ (if i < a then (R, c) else (rl "figure", 57)).1 = rl "figure" ∨ D.getD s1.next 0 ≠ 48 := by
          rw [h2]
          by_cases hia : i < a
          · exact .inr (.inr fun e => hq ⟨hia, e⟩)
          · exact .inr (.inl (by rw [if_neg hia]))
        rw [run, List.foldl_cons, place_fig hf, fig_is_on hon, h2]
        refine e.trans ?_
        rw [vb, if_neg hq]
        simp only [LS.mk.injEq, true_and, and_true]
        exact ⟨by omega, by simp [ones]⟩
    unfold intP
    split
    · rename 0 < i ∧ i % 3 = 0 => hi
      obtain ⟨p, cn, bg, sp, e, hsp⟩ := step (s.suppress F) h hn
      refine ⟨p + 1, cn, bg, sp, ?_, .inr ⟨by omega, ?_⟩⟩
      · show run D neg F (_ :: intP a R c (i + 1) m) (s.place D neg F (rl "insert") 44) = _
        rw [ins_off h (hb hi.1)]
        refine e.trans ?_
        simp only [LS.mk.injEq, true_and, and_true]
        simp [LS.suppress, List.replicate_succ]
      · have hfl : (s.suppress F).found.length = s.found.length + 1 := by simp [LS.suppress]
        rcases hsp with ⟨e1, e2⟩ | ⟨e1, e2⟩
        · rw [e2, e1]; show (s.found.length : Int) = _; simp
        · rw [e2, hfl]
          congr 1
          omega
    · exact step s h hn
end Lay1_part
section Lay2_part
set_option maxRecDepth 100000
theorem digs_head (n : Nat) (h : 0 < n) : (digs n).getD 0 0 ≠ 48 := by
  induction n using Nat.strongRecOn with
  | _ n ih =>
    by_cases h' : n < 10
    · rw [digs_small h']; show 48 + n ≠ 48; omega
    · have h10 : 10 ≤ n := Nat.le_of_not_lt h'
      rw [digs_big h10]
      have hp := digs_len_pos (n / 10)
      rw [List.getD_eq_getElem?_getD, List.getElem?_append_left hp, ← List.getD_eq_getElem?_getD]
      exact ih (n / 10) (by omega) (by omega)
noncomputable def dz (n : Nat) : List Nat := if n = 0 then [] else digs n
theorem figsOf_dz (m n : Nat) : figsOf m n = List.replicate (m - (dz n).length) 48 ++ dz n := rfl
theorem figs_succ (m n : Nat) (h : n < 10 ^ (m + 1)) : figsOf (m + 1) n = figsOf m (n / 10) ++ [48 + n % 10] := by
  by_cases h0 : n = 0
  · subst h0
    simp [figsOf, List.replicate_succ']
  · by_cases h' : n < 10
    · have e : n / 10 = 0 := by omega
      rw [figsOf, figsOf, if_neg h0, e, if_pos rfl, digs_small h', show n % 10 = n by omega]
      simp
    · have h10 : 10 ≤ n := Nat.le_of_not_lt h'
      rw [figsOf, figsOf, if_neg h0, if_neg (by omega), digs_big h10]
      simp only [List.length_append, List.length_singleton, List.append_assoc]
      rw [show m + 1 - ((digs (n / 10)).length + 1) = m - (digs (n / 10)).length by omega]
theorem figs_zero_iff {m n : Nat} (h : n < 10 ^ m) (hm : 0 < m) : figsOf m n = List.replicate (figsOf m n).length 48 ↔ n = 0 := by
  constructor
  · intro e
    rcases Nat.eq_zero_or_pos n with h0 | h0
    · exact h0
    · exfalso
      have hh := digs_head n h0
      have hp := digs_len_pos n
      have hne : n ≠ 0 := by omega
      have e2 : (figsOf m n).getD (m - (digs n).length) 0 = (digs n).getD 0 0 := by
        rw [figsOf, if_neg hne, List.getD_eq_getElem?_getD, List.getElem?_append_right (by simp), List.length_replicate, Nat.sub_self, ← List.getD_eq_getElem?_getD]
      have hl := digs_len m n h hm
      have e3 : (figsOf m n).getD (m - (digs n).length) 0 = 48 := by
        rw [e, List.getD_eq_getElem?_getD, List.getElem?_replicate, if_pos (by rw [figs_len h hm]; omega)]
        rfl
      exact hh (e2.symm.trans e3)
  · intro e
    subst e
    simp [figsOf]
/-- commas as in comma, none ahead of the first -/
noncomputable def comma1 (q : Nat) : List Nat → List Nat
  | [] => []
  | x :: r => x :: comma (q + 1) r
theorem comma_app (l1 l2 : List Nat) : ∀ i, comma i (l1 ++ l2) = comma i l1 ++ comma (i + l1.length) l2 := by
  induction l1 with
  | nil => intro i; simp [comma]
  | cons x r ih =>
    intro i
    rw [List.cons_append, comma, comma, ih, List.length_cons, show i + (r.length + 1) = i + 1 + r.length by omega, List.append_assoc]
theorem comma1_app {l1 l2 : List Nat} (h : l1 ≠ []) (q : Nat) : comma1 q (l1 ++ l2) = comma1 q l1 ++ comma (q + l1.length) l2 := by
  cases l1 with
  | nil => exact absurd rfl h
  | cons x r => rw [List.cons_append, comma1, comma1, comma_app, List.length_cons, show q + (r.length + 1) = q + 1 + r.length by omega, List.cons_append]
theorem comma_none {l : List Nat} : ∀ i, 0 < i → (∀ j, j < l.length → (i + j) % 3 ≠ 0) → comma i l = l := by
  induction l with
  | nil => intro i _ _; rfl
  | cons x r ih =>
    intro i hi h
    have h0 := h 0 (by simp)
    rw [comma, if_neg (by omega), ih (i + 1) (by omega) (fun j hj => by have := h (j + 1) (by simpa using hj); rw [show i + 1 + j = i + (j + 1) by omega]; exact this)]
    rfl
theorem comma1_grp (l : List Nat) : ∀ q, (q + l.length) % 3 = 0 → comma1 q l = grp l := by
  generalize hn : l.length = n
  induction n using Nat.strongRecOn generalizing l with
  | _ n ih =>
    intro q hq
    rw [grp]
    split
    · rename l.length ≤ 3 => h3
      cases l with
      | nil => rfl
      | cons x r =>
        simp only [List.length_cons] at hn h3
        rw [comma1, comma_none (q + 1) (by omega) (fun j hj => by omega)]
    · rename ¬ l.length ≤ 3 => h3
      have hl1 : (l.take (l.length - 3)).length = l.length - 3 := by rw [List.length_take]; omega
      have hne : l.take (l.length - 3) ≠ [] := by intro e; rw [e] at hl1; simp at hl1; omega
      have h1 := ih (l.length - 3) (by omega) (l.take (l.length - 3)) hl1 q (by omega)
      have hl2 : (l.drop (l.length - 3)).length = 3 := by rw [List.length_drop]; omega
      conv => lhs; rw [← List.take_append_drop (l.length - 3) l]
      rw [comma1_app hne, h1, List.append_assoc, hl1]
      congr 1
      obtain ⟨x, y, z, e⟩ : ∃ x y z, l.drop (l.length - 3) = [x, y, z] := by
        match hd : l.drop (l.length - 3), hl2 with
        | [x, y, z], _ => exact ⟨x, y, z, rfl⟩
      rw [e]
      show comma (q + (l.length - 3)) [x, y, z] = 44 :: [x, y, z]
      rw [comma, if_pos ⟨by omega, by omega⟩, comma, if_neg (by omega), comma, if_neg (by omega), comma]
      rfl
theorem ct_comma (D : List Nat) : ∀ m i, i + m ≤ D.length → ct D i m = comma i ((D.drop i).take m)
  | 0, i, _ => by simp [ct, comma]
  | m + 1, i, h => by
    rw [drop_getD (by omega), List.take_succ_cons, comma, ct, ct_comma D m (i + 1) (by omega)]
    split <;> rfl
theorem vb_skip (D : List Nat) (a : Nat) : ∀ d m i, d ≤ m → (∀ j, i ≤ j → j < i + d → j < a ∧ D.getD j 0 = 48) → vb D a i m = vb D a (i + d) (m - d)
  | 0, m, i, _, _ => by simp
  | d + 1, 0, i, h, _ => absurd h (by omega)
  | d + 1, m + 1, i, h, hj => by
    rw [vb, if_pos (hj i (Nat.le_refl _) (by omega)), vb_skip D a d m (i + 1) (by omega) (fun j h1 h2 => hj j (by omega) (by omega))]
    congr 1 <;> omega
theorem vb_congr {D D' : List Nat} {a : Nat} : ∀ m i, (∀ j, i ≤ j → j < i + m → D.getD j 0 = D'.getD j 0) → vb D a i m = vb D' a i m := by
  have hct : ∀ m i, (∀ j, i ≤ j → j < i + m → D.getD j 0 = D'.getD j 0) → ct D i m = ct D' i m := by
    intro m
    induction m with
    | zero => intro i _; rfl
    | succ m ih => intro i h; rw [ct, ct, h i (Nat.le_refl _) (by omega), ih (i + 1) (fun j h1 h2 => h j (by omega) (by omega))]
  intro m
  induction m with
  | zero => intro i _; rfl
  | succ m ih => intro i h; rw [vb, vb, h i (Nat.le_refl _) (by omega), ih (i + 1) (fun j h1 h2 => h j (by omega) (by omega)), hct m (i + 1) (fun j h1 h2 => h j (by omega) (by omega))]
theorem vb_grp (g k n : Nat) (h : n < 10 ^ (3 * g)) (hg : 0 < g) (hk : k ≤ 3 * g) : vb (figsOf (3 * g) n) (3 * g - k) 0 (3 * g) = grp (figsOf k n) := by
  have hW : (dz n).length ≤ 3 * g := by
    unfold dz
    split
    · exact Nat.zero_le _
    · exact digs_len _ _ h (by omega)
  have hD : (figsOf (3 * g) n).length = 3 * g := figs_len h (by omega)
  have hz : ∀ j, j < 3 * g - (dz n).length → (figsOf (3 * g) n).getD j 0 = 48 := fun j hj => by
    rw [figsOf_dz, List.getD_eq_getElem?_getD, List.getElem?_append_left (by simpa using hj), List.getElem?_replicate, if_pos hj]; rfl
  generalize hq : min (3 * g - (dz n).length) (3 * g - k) = q
  have hdrop : (figsOf (3 * g) n).drop q = figsOf k n := by
    rw [figsOf_dz, figsOf_dz, List.drop_append, List.drop_replicate, List.length_replicate]
    rw [show q - (3 * g - (dz n).length) = 0 by omega, List.drop_zero, show 3 * g - (dz n).length - q = k - (dz n).length by omega]
  rw [vb_skip _ _ q (3 * g) 0 (by omega) (fun j _ h2 => ⟨by omega, hz j (by omega)⟩), Nat.zero_add]
  by_cases hq3 : q = 3 * g
  · have : figsOf k n = [] := by rw [← hdrop, List.drop_eq_nil_of_le (by omega)]
    rw [this, hq3, Nat.sub_self, vb, grp]; rfl
  · obtain ⟨m, hm⟩ : ∃ m, 3 * g - q = m + 1 := ⟨3 * g - q - 1, by omega⟩
    have hstop : ¬ (q < 3 * g - k ∧ (figsOf (3 * g) n).getD q 0 = 48) := by
      rintro ⟨h1, h2⟩
      have hqz : q = 3 * g - (dz n).length := by omega
      have hpos : 0 < n := by
        rcases Nat.eq_zero_or_pos n with e | e
        · subst e; simp [dz] at hqz; omega
        · exact e
      rw [figsOf_dz, hqz, List.getD_eq_getElem?_getD, List.getElem?_append_right (by simp), List.length_replicate, Nat.sub_self, ← List.getD_eq_getElem?_getD] at h2
      have : dz n = digs n := by rw [dz, if_neg (by omega)]
      rw [this] at h2
      exact digs_head n hpos h2
    rw [hm, vb, if_neg hstop, ct_comma _ _ _ (by omega), List.take_of_length_le (by rw [List.length_drop]; omega)]
    have e : (figsOf (3 * g) n).getD q 0 :: comma (q + 1) ((figsOf (3 * g) n).drop (q + 1)) = comma1 q ((figsOf (3 * g) n).drop q) := by
      rw [drop_getD (tx := figsOf (3 * g) n) (i := q) (by omega)]; rfl
    rw [e, hdrop]
    refine comma1_grp _ _ ?_
    rw [← hdrop, List.length_drop, hD]
    omega
end Lay2_part
section Lay3_part
local macro_rules | `(tactic| walk_at "no key 0") => `(tactic| fail)
set_option maxRecDepth 100000
noncomputable def dgOf (g : Nat) (b : Bool) : Nat := 3 * g + (if b then 2 else 0)
/-- what the law's pictures are known by -/
noncomputable def picOk (c g k : Nat) (b : Bool) : Bool :=
  okP c g k b && decide ((picText c g k b).length ≤ 30) && (picText c g k b).all (fun x => decide (x ∈ AL)) &&
  (decide (rl "lead" ∈ rolesOf (picText c g k b)) == isLead c) && (!isLead c || (decide ((rolesOf (picText c g k b)).idxOf (rl "lead") = 0) && decide ((picText c g k b).getD 0 0 = c))) &&
  (decide (rl "star" ∈ rolesOf (picText c g k b)) == decide (c = 42)) && (decide (rl "figure" ∈ rolesOf (picText c g k b)) == (decide (0 < k) || b)) &&
  decide ((rolesOf (picText c g k b)).countP isFig ≤ dgOf g b) &&
  (decide (0 < k) || b || decide (vanText (picText c g k b).length (picText c g k b) (rolesOf (picText c g k b)) = List.replicate (picText c g k b).length (if c = 42 then 42 else 32)))
noncomputable def numOk (c g k : Nat) (b : Bool) : Bool :=
  (match (picText c g k b).foldlM OS.take {} with
    | some sf => decide (sf.nines + sf.zeros + sf.floats = dgOf g b) && decide (sf.behind = (if b then 2 else 0)) && (match sf.last with | [cl] => decide (cl ≠ 44 ∧ cl ≠ 46) | _ => false)
    | none => false) &&
  decide (((picText c g k b).foldl rlePush []).length ≤ 30) && ((picText c g k b).foldl rlePush []).all (fun p => decide (p.1 ∈ AL ∧ p.2 ≤ 30)) && decide ((((picText c g k b).foldl rlePush []).map fun p => (p.2 : Int)).sum = ((picText c g k b).length : Int))
theorem picOk1 : ∀ c ∈ CS, ∀ g ∈ [2, 3, 4, 5], ∀ k ∈ [0, 1, 2, 3, 4], ∀ b, picOk c g k b = true := by decide +kernel
theorem picOk2 : ∀ g ∈ [2, 3, 4, 5], ∀ b, picOk 57 g (3 * g) b = true := by decide +kernel
theorem numOk1 : ∀ c ∈ CS, ∀ g ∈ [2, 3, 4, 5], ∀ k ∈ [0, 1, 2, 3, 4], ∀ b, numOk c g k b = true := by decide +kernel
theorem numOk2 : ∀ g ∈ [2, 3, 4, 5], ∀ b, numOk 57 g (3 * g) b = true := by decide +kernel
theorem roleC_supp (c : Nat) : LS.supp (roleC c) = true := by
  unfold roleC
  split
  · decide +kernel
  split <;> decide +kernel
theorem roleC_ne (c : Nat) : roleC c ≠ rl "figure" := by
  unfold roleC
  split
  · decide +kernel
  split <;> decide +kernel
/-- the whole run over a picture's places -/
theorem run_zip (D : List Nat) (neg : Bool) (F c g k : Nat) (b : Bool) : ∃ p, let V := vb D (3 * g - k) 0 (3 * g) ++ (if b then [46, D.getD (3 * g) 0, D.getD (3 * g + 1) 0] else []);
    (isLead c = true → (layAll D neg F (zipP c g k b)).found = List.replicate (p + 1) [F] ++ ones V ∧ (layAll D neg F (zipP c g k b)).spot = (p : Int)) ∧
    (isLead c = false → (layAll D neg F (zipP c g k b)).found = List.replicate p [F] ++ ones V) := by
  have cents : ∀ s : LS, s.next = 3 * g → (run D neg F (if b then [(rl "point", 46), (rl "figure", 57), (rl "figure", 57)] else []) s).found = s.found ++ ones (if b then [46, D.getD (3 * g) 0, D.getD (3 * g + 1) 0] else []) ∧ (run D neg F (if b then [(rl "point", 46), (rl "figure", 57), (rl "figure", 57)] else []) s).spot = s.spot := by
    intro s hs
    cases b with
    | false => exact ⟨by simp [run, ones], rfl⟩
    | true =>
      rw [if_pos rfl, if_pos rfl]
      show (run D neg F [] (LS.place D neg F (rl "figure") 57 (LS.place D neg F (rl "figure") 57 (s.place D neg F (rl "point") 46)))).found = _ ∧ (run D neg F [] (LS.place D neg F (rl "figure") 57 (LS.place D neg F (rl "figure") 57 (s.place D neg F (rl "point") 46)))).spot = _
      rw [point_at, place_fig (.inl rfl), fig_is_on (.inl rfl), place_fig (.inl rfl), fig_is_on (.inl rfl)]
      dsimp only
      rw [hs]
      exact ⟨by simp [run, ones], rfl⟩
  cases hl : isLead c with
  | true =>
    obtain ⟨p, cn, bg, sp, e, hsp⟩ := run_quiet (D := D) (neg := neg) (F := F) (a := 3 * g - k) (c := c) (roleC_supp c) (roleC_ne c) (3 * g) 0 ⟨0, [[F]], false, true, 0⟩ rfl rfl (fun h => absurd h (Nat.lt_irrefl _))
    refine ⟨p, fun _ => ?_, fun h => by cases h⟩
    have e0 : layAll D neg F (zipP c g k b) = run D neg F (if b then [(rl "point", 46), (rl "figure", 57), (rl "figure", 57)] else []) (run D neg F (intP (3 * g - k) (roleC c) c 0 (3 * g)) ⟨0, [[F]], false, true, 0⟩) := by
      unfold layAll zipP
      rw [hl, if_pos rfl, List.foldl_append, List.foldl_append]
      show List.foldl _ (List.foldl _ (({} : LS).place D neg F (rl "lead") c) _) _ = _
      rw [lead_at]
      rfl
    obtain ⟨c1, c2⟩ := cents _ (show (run D neg F (intP (3 * g - k) (roleC c) c 0 (3 * g)) ⟨0, [[F]], false, true, 0⟩).next = 3 * g by rw [e]; show 0 + 3 * g = _; omega)
    rw [e0]
    refine ⟨?_, ?_⟩
    · rw [c1, e, ones_app]
      simp [List.replicate_succ]
    · rw [c2, e]
      dsimp only
      rcases hsp with ⟨e1, e2⟩ | ⟨e1, e2⟩
      · rw [e1, e2]; rfl
      · rw [e2]; congr 1; simp
  | false =>
    obtain ⟨p, cn, bg, sp, e, hsp⟩ := run_quiet (D := D) (neg := neg) (F := F) (a := 3 * g - k) (c := c) (roleC_supp c) (roleC_ne c) (3 * g) 0 {} rfl rfl (fun h => absurd h (Nat.lt_irrefl _))
    refine ⟨p, (fun h => by cases h), fun _ => ?_⟩
    have e0 : layAll D neg F (zipP c g k b) = run D neg F (if b then [(rl "point", 46), (rl "figure", 57), (rl "figure", 57)] else []) (run D neg F (intP (3 * g - k) (roleC c) c 0 (3 * g)) {}) := by
      unfold layAll zipP
      rw [hl, if_neg (by decide), List.foldl_append, List.foldl_append]
      rfl
    obtain ⟨c1, c2⟩ := cents _ (show (run D neg F (intP (3 * g - k) (roleC c) c 0 (3 * g)) {}).next = 3 * g by rw [e]; show 0 + 3 * g = _; omega)
    rw [e0, c1, e, ones_app]
    simp
end Lay3_part
section Lay4_part
set_option maxRecDepth 100000
theorem ones_flat' (l : List Nat) : (ones l).flatten = l := ones_flat l
theorem rep_flat (p F : Nat) : (List.replicate p [F]).flatten = List.replicate p F := by
  induction p with
  | zero => rfl
  | succ p ih => rw [List.replicate_succ, List.flatten_cons, ih, List.replicate_succ]; rfl
theorem edit_due {c g k : Nat} {b : Bool} (hok : picOk c g k b = true) (hg : 0 < g) (hk : k ≤ 3 * g) (U U' : Int) (hU : U'.natAbs = U.natAbs % 10 ^ dgOf g b) (hneg : U' < 0 ↔ (U < 0 ∧ 0 < U.natAbs % 10 ^ dgOf g b)) :
    editSpec (picText c g k b) (dgOf g b) (picText c g k b).length U = dueSpec c (picText c g k b).length k b U' := by
  have hdg : 0 < dgOf g b := by unfold dgOf; omega
  have hrl : (rolesOf (picText c g k b)).length = (picText c g k b).length := roles_len _ _
  unfold picOk at hok
  generalize htx : picText c g k b = tx at *
  simp only [okP, htx, Bool.and_eq_true, Bool.or_eq_true, decide_eq_true_eq, beq_iff_eq, Bool.not_eq_true'] at hok
  obtain ⟨⟨⟨⟨⟨⟨⟨⟨hzip, hlen⟩, hal⟩, hlead⟩, hlead0⟩, hstar⟩, hfig⟩, hcnt⟩, hvan⟩ := hok
  generalize hn : U.natAbs % 10 ^ dgOf g b = n at *
  have hnlt : n < 10 ^ dgOf g b := by rw [← hn]; exact Nat.mod_lt _ (Nat.pow_pos (by decide))
  have hDl : (figsOf (dgOf g b) n).length = dgOf g b := figs_len hnlt hdg
  have hz : figsOf (dgOf g b) n = List.replicate (figsOf (dgOf g b) n).length 48 ↔ n = 0 := figs_zero_iff hnlt hdg
  have hfig' : rl "figure" ∈ rolesOf tx ↔ (0 < k ∨ b = true) := by
    have := hfig
    rw [Bool.eq_iff_iff] at this
    simpa using this
  have hlead' : rl "lead" ∈ rolesOf tx ↔ isLead c = true := by
    rw [← hlead]; simp
  have hstar' : rl "star" ∈ rolesOf tx ↔ c = 42 := by
    rw [Bool.eq_iff_iff] at hstar
    simpa using hstar
  have hneg' : decide (U' < 0) = decide (U < 0 ∧ 0 < n) := by rw [decide_eq_decide]; exact hneg
  have hU0 : U' = 0 ↔ n = 0 := by rw [← hU]; omega
  have hcond : (figsOf (dgOf g b) n = List.replicate (figsOf (dgOf g b) n).length 48 ∧ rl "figure" ∉ rolesOf tx) ↔ (U' = 0 ∧ k = 0 ∧ b = false) := by
    rw [hz, hfig', hU0]
    cases b <;> simp <;> omega
  unfold editSpec dueSpec
  dsimp only
  rw [hn]
  by_cases hc : U' = 0 ∧ k = 0 ∧ b = false
  · rw [if_pos (hcond.mpr hc), if_pos hc]
    rcases hvan with (h | h) | h
    · omega
    · rw [hc.2.2] at h; cases h
    · exact h
  · rw [if_neg (fun h => hc (hcond.mp h)), if_neg hc]
    have hfill : (if rl "star" ∈ rolesOf tx then 42 else 32) = (if c = 42 then 42 else 32) := by
      by_cases h : c = 42
      · rw [if_pos h, if_pos (hstar'.mpr h)]
      · rw [if_neg h, if_neg (fun e => h (hstar'.mp e))]
    rw [hfill, hzip, hneg', hU]
    generalize hFF : (if c = 42 then 42 else 32) = F
    generalize hDD : figsOf (dgOf g b) n = D at *
    generalize hng : decide (U < 0 ∧ 0 < n) = neg at *
    obtain ⟨p, h1, h2⟩ := run_zip D neg F c g k b
    -- the figures' text
    have hV : vb D (3 * g - k) 0 (3 * g) ++ (if b then [46, D.getD (3 * g) 0, D.getD (3 * g + 1) 0] else []) = grp (figsOf k (if b then n / 100 else n)) ++ (if b then [46, 48 + n % 100 / 10, 48 + n % 100 % 10] else []) := by
      cases b with
      | false =>
        rw [if_neg (by decide), if_neg (by decide), if_neg (by decide), List.append_nil, List.append_nil, ← hDD]
        exact vb_grp g k n (by simpa [dgOf] using hnlt) hg hk
      | true =>
        rw [if_pos rfl, if_pos rfl, if_pos rfl]
        have hn2 : n < 10 ^ (3 * g + 1 + 1) := by simpa [dgOf] using hnlt
        have hn1 : n / 10 < 10 ^ (3 * g + 1) := by rw [Nat.pow_succ] at hn2; omega
        have hn0 : n / 10 / 10 < 10 ^ (3 * g) := by rw [Nat.pow_succ] at hn1; omega
        have hDe : D = figsOf (3 * g) (n / 100) ++ [48 + n % 100 / 10, 48 + n % 100 % 10] := by
          rw [← hDD, show dgOf g true = 3 * g + 1 + 1 by simp [dgOf], figs_succ _ _ hn2, figs_succ _ _ hn1, List.append_assoc, show n / 10 / 10 = n / 100 by omega, show n / 10 % 10 = n % 100 / 10 by omega, show n % 10 = n % 100 % 10 by omega]
          rfl
        have hl0 : (figsOf (3 * g) (n / 100)).length = 3 * g := figs_len (by rw [show n / 100 = n / 10 / 10 by omega]; exact hn0) (by omega)
        have e1 : D.getD (3 * g) 0 = 48 + n % 100 / 10 := by
          rw [hDe, List.getD_eq_getElem?_getD, List.getElem?_append_right (by omega), hl0, Nat.sub_self]; rfl
        have e2 : D.getD (3 * g + 1) 0 = 48 + n % 100 % 10 := by
          rw [hDe, List.getD_eq_getElem?_getD, List.getElem?_append_right (by omega), hl0, show 3 * g + 1 - 3 * g = 1 by omega]; rfl
        rw [e1, e2, ← vb_grp g k (n / 100) (by rw [show n / 100 = n / 10 / 10 by omega]; exact hn0) hg hk]
        congr 1
        refine vb_congr _ _ fun j _ hj => ?_
        rw [hDe, List.getD_eq_getElem?_getD, List.getElem?_append_left (by omega), ← List.getD_eq_getElem?_getD]
    have hVn : n / 100 = n / 100 := rfl
    rw [hV] at h1 h2
    generalize hT : grp (figsOf k (if b then n / 100 else n)) ++ (if b then [46, 48 + n % 100 / 10, 48 + n % 100 % 10] else []) = T at *
    have hflen : (layAll D neg F (zipP c g k b)).found.length = tx.length := by
      rw [layAll_len, ← hzip, List.length_zip]; omega
    cases hl : isLead c with
    | true =>
      obtain ⟨h1f, h1s⟩ := h1 hl
      rw [if_pos (hlead'.mpr hl)]
      have hix : (rolesOf tx).idxOf (rl "lead") = 0 ∧ tx.getD 0 0 = c := by
        rcases hlead0 with h | h
        · rw [hl] at h; cases h
        · exact h
      rw [hix.1, hix.2, h1s, h1f, Int.toNat_natCast]
      have hset : (List.replicate (p + 1) [F] ++ ones T).set p [signTxt c neg] = List.replicate p [F] ++ ([signTxt c neg] :: ones T) := by
        rw [List.replicate_succ', List.append_assoc, List.set_append_right _ _ (by simp), List.length_replicate, Nat.sub_self]
        rfl
      rw [hset]
      have hpl : tx.length = p + 1 + T.length := by
        rw [← hflen, h1f]; simp [ones]
      have hfl : (List.replicate p [F] ++ ([signTxt c neg] :: ones T)).flatten = List.replicate p F ++ ([signTxt c neg] ++ T) := by
        rw [List.flatten_append, List.flatten_cons, rep_flat, ones_flat']
      rw [hfl]
      have ht2 : (if c = 36 then [36] ++ T else if c = 43 ∨ c = 45 then [signTxt c neg] ++ T else T) = [signTxt c neg] ++ T := by
        simp only [isLead, Bool.or_eq_true, beq_iff_eq] at hl
        by_cases h36 : c = 36
        · rw [if_pos h36, h36]; rfl
        · rw [if_neg h36, if_pos (by omega)]
      rw [ht2, show tx.length - ([signTxt c neg] ++ T).length = p by simp; omega]
    | false =>
      have h2f := h2 hl
      rw [if_neg (fun e => by rw [hlead'.mp e] at hl; cases hl), h2f]
      have hpl : tx.length = p + T.length := by
        rw [← hflen, h2f]; simp [ones]
      rw [List.flatten_append, rep_flat, ones_flat']
      simp only [isLead, Bool.or_eq_false_iff, beq_eq_false_iff_ne, ne_eq] at hl
      rw [if_neg hl.1.1, if_neg (by omega), show tx.length - T.length = p by omega]
end Lay4_part
section Lay5_part
local macro_rules | `(tactic| walk_at "no key 0") => `(tactic| fail)
set_option maxRecDepth 100000
theorem law_pics {c gn kn : Nat} {b : Bool} (hc : c ∈ ([90, 42, 36, 43, 45, 57] : List Nat)) (hg : 2 ≤ gn ∧ gn ≤ 5) (hk : c = 57 ∧ kn = 3 * gn ∨ c ≠ 57 ∧ kn < 5) :
    picOk c gn kn b = true ∧ numOk c gn kn b = true ∧ kn ≤ 3 * gn ∧ kn ≤ 15 := by
  have hg' : gn ∈ ([2, 3, 4, 5] : List Nat) := by
    simp only [List.mem_cons, List.not_mem_nil, or_false]; omega
  rcases hk with ⟨rfl, rfl⟩ | ⟨h57, hk⟩
  · exact ⟨picOk2 gn hg' b, numOk2 gn hg' b, Nat.le_refl _, by omega⟩
  · have hc' : c ∈ CS := by
      simp only [CS, List.mem_cons, List.not_mem_nil, or_false] at hc ⊢
      omega
    have hk' : kn ∈ ([0, 1, 2, 3, 4] : List Nat) := by
      simp only [List.mem_cons, List.not_mem_nil, or_false]; omega
    exact ⟨picOk1 c hc' gn hg' kn hk' b, numOk1 c hc' gn hg' kn hk' b, by omega, by omega⟩
theorem pic_len {c g k : Nat} {b : Bool} (h : picOk c g k b = true) : (picText c g k b).length ≤ 30 ∧ (∀ x ∈ picText c g k b, x ∈ AL) ∧ (rolesOf (picText c g k b)).countP isFig ≤ dgOf g b := by
  unfold picOk at h
  simp only [Bool.and_eq_true, decide_eq_true_eq, List.all_eq_true] at h
  exact ⟨h.1.1.1.1.1.1.1.2, fun x hx => h.1.1.1.1.1.1.2 x hx, h.1.2⟩
theorem c_read' (w : World) (h : Heap) (c g k : Nat) (b : Bool) (t1 : Tok) (h1 : picOk c g k b = true) (h2 : numOk c g k b = true) (hg : 2 ≤ g ∧ g ≤ 5) :
    Pure w 16 324 [.str (St (picText c g k b)) t1] h (fun v new => PicIn w new v (picText c g k b) ((dgOf g b : Nat) : Int) (((if b then 2 else 0 : Nat)) : Int) (((picText c g k b).length : Nat) : Int)) := by
  obtain ⟨e1, e2, e3⟩ := pic_len h1
  unfold numOk at h2
  generalize picText c g k b = tx at *
  simp only [Bool.and_eq_true, decide_eq_true_eq, List.all_eq_true] at h2
  obtain ⟨⟨⟨hO, hp1⟩, hp2⟩, hp3⟩ := h2
  cases hf : tx.foldlM OS.take {} with
  | none => rw [hf] at hO; cases hO
  | some sf =>
    rw [hf] at hO
    dsimp only at hO
    simp only [Bool.and_eq_true, decide_eq_true_eq] at hO
    obtain ⟨⟨hd, hbh⟩, hla⟩ := hO
    cases hl : sf.last with
    | nil => rw [hl] at hla; cases hla
    | cons cl r =>
      cases r with
      | cons x y => rw [hl] at hla; cases hla
      | nil =>
        rw [hl] at hla
        have hla' : cl ≠ 44 ∧ cl ≠ 46 := of_decide_eq_true hla
        have hdg : dgOf g b ≤ 17 := by unfold dgOf; split <;> omega
        have hdp : 0 < dgOf g b := by unfold dgOf; omega
        have key := c_read w h tx t1 e1 e2 sf hf (by omega) (by omega) cl hl hla' hp1 hp2 hp3
        rw [show ((sf.nines : Int) + sf.zeros + sf.floats) = ((dgOf g b : Nat) : Int) by omega, show ((sf.behind : Nat) : Int) = (((if b then 2 else 0 : Nat)) : Int) by rw [hbh]] at key
        exact key
section
variable {M : Model} {A : Around} {E : Value → Shared → Prop} {s : Shared} {h₀ : Heap} {L : Addr} {m : Str → Option Value} {news : List (Addr × Obj)}
/-- a term's value known by what holds of it -/
theorem mono_val {t : Sem Value} {Q : Value → Shared → Prop} (G : Value → Prop) (F : Fr h₀ L s.heap m) (N : News h₀ L s.heap news) (a : wpAny M A t (fun v s' => Held (G v ∧ ∃ k h4, s' = { s with heap := h4, toks := k } ∧ Fr h₀ L h4 m ∧ News h₀ L h4 news)) E s)
    (b : ∀ v k h4, G v → Fr h₀ L h4 m → News h₀ L h4 news → Q v { s with heap := h4, toks := k }) : wpAny M A t Q E s :=
  wpAny_mono a (fun v s' ⟨g, k, h4, e, F4, N4⟩ => by subst e; exact b v k h4 g F4 N4) fun _ _ e => e
end
end Lay5_part
section Lay6_part
set_option maxRecDepth 100000
section
variable {prog : Program} {w : World} {A : Around} {E : Value → Shared → Prop} {s : Shared} {env : Env} {h₀ : Heap} {x : Str} {body : List Stmt} {Q : Flow → Shared → Prop}
theorem krs_inv {I : Addr} {a c : Int} {n : Nat} (J : Nat → (Str → Option Value) → List (Addr × Obj) → Prop)
    (nil : ∀ m news h tk, J 0 m news → Fr h₀ env.locals h m → News h₀ env.locals h news → Q .next { s with heap := h, toks := tk })
    (turn : ∀ (k i : Nat) m news t h tk (o : Obj), i < n → J (k + 1) m news → Fr h₀ env.locals h (fun y => if y = x then some (.int (a + (i : Int) * c) t) else m y) → News h₀ env.locals h ((I, o) :: news) →
      wpAny (model prog w) A (execs body env) (UnrPost h₀ env.locals { s with heap := h, toks := tk } I o (fun m' n' => Held (J k m' n')) Q) E { s with heap := h, toks := tk }) :
    ∀ (k i : Nat) m news, i + k = n → J k m news → KrsRest prog w A E h₀ env x body Q s I a c n k i m news
  | 0, i, m, news, _, hJ => fun h tk F N => nil m news h tk hJ F N
  | k + 1, i, m, news, hik, hJ => fun t h tk F N => wpAny_mono (turn k i m news t h tk _ (by omega) hJ F N) (fun f s₂ p => by
      cases f with
      | ret v => exact p
      | brk => exact p
      | next => obtain ⟨h', tk', m', n', a1, a2, a3, a4, a5⟩ := p; exact ⟨h', tk', m', n', a1, a2, a3, a4, krs_inv J nil turn k (i + 1) m' n' (by omega) a5.out⟩
      | cont => obtain ⟨h', tk', m', n', a1, a2, a3, a4, a5⟩ := p; exact ⟨h', tk', m', n', a1, a2, a3, a4, krs_inv J nil turn k (i + 1) m' n' (by omega) a5.out⟩) fun _ _ e => e
end
theorem ints_app {vs us : List Value} {ns ms : List Int} (h : IntsAre vs ns) (h' : IntsAre us ms) : IntsAre (vs ++ us) (ns ++ ms) := by
  induction h with
  | nil => exact h'
  | cons a t _ ih => exact .cons a t ih
theorem range_n {g : Nat} (hg : 2 ≤ g ∧ g ≤ 5) : Builtin.Range.small 1 (3 * (g : Int)) 3 = true ∧ Builtin.Range.rangeSize 1 (3 * (g : Int)) 3 = (g : Int) := by
  have : g = 2 ∨ g = 3 ∨ g = 4 ∨ g = 5 := by omega
  rcases this with rfl | rfl | rfl | rfl <;> decide
section
variable {prog : Program} {w : World} {A : Around} {E : Value → Shared → Prop} {s : Shared} {env : Env} {h₀ : Heap} {x : Str} {body : List Stmt} {Q : Flow → Shared → Prop}
/-- a loop over a range that lengthens a list of ints -/
theorem krs_nums {r l : Addr} {a₀ b₀ c : Int} {t₀ u₀ v₀ : Tok} {n B : Nat} {m₀ : Str → Option Value} {rest : List (Addr × Obj)} {js₀ : Array Value} {nn₀ : Nat} {ns₀ : List Int}
    (hh : A.handled = none) (hr : IsRange s.heap r a₀ b₀ c t₀ u₀ v₀) (hsmall : Builtin.Range.small a₀ b₀ c = true) (hn : Builtin.Range.rangeSize a₀ b₀ c = (n : Int)) (F : Fr h₀ env.locals s.heap m₀) (N : News h₀ env.locals s.heap ((l, listOf js₀ nn₀) :: rest))
    (hi : IntsAre js₀.toList ns₀) (hB : ns₀.length + 2 * n ≤ B)
    (nil : ∀ js nn ns (u : Str → Option Value) h tk, IntsAre js.toList ns → ns.length ≤ B → Fr h₀ env.locals h (fun z => if z = x then u z else m₀ z) → News h₀ env.locals h ((l, listOf js nn) :: rest) → Q .next { s with heap := h, toks := tk })
    (turn : ∀ (I : Addr) js nn ns (k i : Nat) t h tk (o : Obj), (∀ p ∈ (l, listOf js₀ nn₀) :: rest, p.1 < I) → i < n → IntsAre js.toList ns → ns.length + 2 * (k + 1) ≤ B → Fr h₀ env.locals h (fun y => if y = x then some (.int (a₀ + (i : Int) * c) t) else m₀ y) → News h₀ env.locals h ((I, o) :: (l, listOf js nn) :: rest) →
      wpAny (model prog w) A (execs body env) (UnrPost h₀ env.locals { s with heap := h, toks := tk } I o (fun m' n' => Held (∃ js nn ns, (∀ z, z ≠ x → m' z = m₀ z) ∧ n' = (l, listOf js nn) :: rest ∧ IntsAre js.toList ns ∧ ns.length + 2 * k ≤ B)) Q) E { s with heap := h, toks := tk }) :
    wpAny (model prog w) A (pyIter (.ref r)) (fun it s₂ => LoopAtV prog w A h₀ env x body Q E it s₂) E s := by
  refine krs_iter hh hr hsmall hn F N fun I hI => ?_
  refine krs_inv (fun k m news => ∃ js nn ns, (∀ z, z ≠ x → m z = m₀ z) ∧ news = (l, listOf js nn) :: rest ∧ IntsAre js.toList ns ∧ ns.length + 2 * k ≤ B) ?_ ?_ n 0 m₀ _ (by omega) ⟨js₀, nn₀, ns₀, fun _ _ => rfl, rfl, hi, hB⟩
  · rintro m news h tk ⟨js, nn, ns, hm, rfl, hi, hB⟩ F N
    refine nil js nn ns m h tk hi (by omega) ?_ N
    have e : m = fun z => if z = x then m z else m₀ z := by
      funext z
      by_cases hz : z = x
      · rw [if_pos hz]
      · rw [if_neg hz, hm z hz]
    exact e ▸ F
  · rintro k i m news t h tk o hin ⟨js, nn, ns, hm, rfl, hi, hB⟩ F N
    refine turn I js nn ns k i t h tk o hI hin hi hB ?_ N
    have e : (fun y => if y = x then some (Value.int (a₀ + (i : Int) * c) t) else m y) = fun y => if y = x then some (Value.int (a₀ + (i : Int) * c) t) else m₀ y := by
      funext z
      by_cases hz : z = x
      · rw [if_pos hz, if_pos hz]
      · rw [if_neg hz, if_neg hz, hm z hz]
    exact e ▸ F
end
section
variable {M : Model} {A : Around} {E : Value → Shared → Prop} {s : Shared} {h₀ : Heap} {L : Addr} {m : Str → Option Value} {news : List (Addr × Obj)}
/-- a term that gives a tuple of few ints -/
theorem mono_tup {t : Sem Value} {Q : Value → Shared → Prop} (_F : Fr h₀ L s.heap m) (_N : News h₀ L s.heap news) (a : wpAny M A t (fun v s' => Held (∃ T us ms k h4 nx, v = .ref T ∧ IntsAre us ms ∧ us.length ≤ 2 ∧ s' = { s with heap := h4, toks := k } ∧ Fr h₀ L h4 m ∧ News h₀ L h4 nx ∧ (∀ p ∈ (T, tupObj us) :: news, p ∈ nx))) E s)
    (b : ∀ T us ms k h4, IntsAre us ms → us.length ≤ 2 → Fr h₀ L h4 m → News h₀ L h4 ((T, tupObj us) :: news) → Q (.ref T) { s with heap := h4, toks := k }) : wpAny M A t Q E s :=
  wpAny_mono a (fun v s' hh => by
    obtain ⟨T, us, ms, k, h4, nx, e1, hi, hl, e2, F4, N4, sub⟩ := hh.out
    subst e1 e2
    exact b T us ms k h4 hi hl F4 (fun p hp => N4 p (sub p hp))) fun _ _ e => e
end
theorem tup_ret {s : Shared} {h₀ h4 : Heap} {L T : Addr} {m : Str → Option Value} {news : List (Addr × Obj)} {o1 : Addr × Obj} {us : List Value} {ms : List Int} {k : Nat} (hi : IntsAre us ms) (hl : us.length ≤ 2) (F : Fr h₀ L h4 m) (N : News h₀ L h4 ((T, tupObj us) :: o1 :: news)) :
    Held (∃ T' us ms k' h' nx, Value.ref T = .ref T' ∧ IntsAre us ms ∧ us.length ≤ 2 ∧ ({ s with heap := h4, toks := k } : Shared) = { s with heap := h', toks := k' } ∧ Fr h₀ L h' m ∧ News h₀ L h' nx ∧ (∀ p ∈ (T', tupObj us) :: news, p ∈ nx)) :=
  ⟨T, us, ms, k, h4, _, rfl, hi, hl, rfl, F, N, fun p hp => by
    rcases List.mem_cons.mp hp with rfl | hp
    · exact .head _
    · exact .tail _ (.tail _ hp)⟩
theorem ints_get {vs : List Value} {ns : List Int} (h : IntsAre vs ns) : ∀ v ∈ vs, ∃ x t, v = .int x t := by
  induction h with
  | nil => intro v hv; cases hv
  | cons a t _ ih =>
    intro v hv
    rcases List.mem_cons.mp hv with rfl | hv
    · exact ⟨a, t, rfl⟩
    · exact ih v hv
theorem left_facts (U : Int) {gn : Nat} {b : Bool} (hg : gn ≤ 5) {σ : Int} (hσ : (0 < U ∧ σ = 1) ∨ (¬ 0 < U ∧ σ = -1)) :
    ((if U < 0 then -U else U).fmod (10 ^ (3 * (gn : Int) + (((if b then 2 else 0 : Nat)) : Int)).toNat) * σ).natAbs = U.natAbs % 10 ^ dgOf gn b ∧
    ((if U < 0 then -U else U).fmod (10 ^ (3 * (gn : Int) + (((if b then 2 else 0 : Nat)) : Int)).toNat) * σ < 0 ↔ (U < 0 ∧ 0 < U.natAbs % 10 ^ dgOf gn b)) ∧
    ((if U < 0 then -U else U).fmod (10 ^ (3 * (gn : Int) + (((if b then 2 else 0 : Nat)) : Int)).toNat) * σ).natAbs < 10 ^ 17 := by
  have e : (3 * (gn : Int) + (((if b then 2 else 0 : Nat)) : Int)).toNat = dgOf gn b := by unfold dgOf; omega
  rw [e, abs_mod]
  have hlt : U.natAbs % 10 ^ dgOf gn b < 10 ^ 17 := Nat.lt_of_lt_of_le (Nat.mod_lt _ (Nat.pow_pos (by decide))) (Nat.pow_le_pow_right (by decide) (by unfold dgOf; split <;> omega))
  have h0 : U = 0 → U.natAbs % 10 ^ dgOf gn b = 0 := fun h => by rw [h]; simp
  generalize U.natAbs % 10 ^ dgOf gn b = m at *
  rcases hσ with ⟨h, rfl⟩ | ⟨h, rfl⟩
  · refine ⟨by omega, by omega, by omega⟩
  · refine ⟨by omega, ⟨fun h1 => ?_, fun h1 => by omega⟩, by omega⟩
    by_cases hU : U = 0
    · have := h0 hU; omega
    · omega
end Lay6_part
section C_s18_part
local macro_rules | `(tactic| walk_at "no key 0") => `(tactic| fail)
set_option maxRecDepth 100000
set_option maxHeartbeats 300000
set_option rowWalk.seconds 0
theorem init_C_s18 : (PySem.Challenge.rw_pb0263_01.Holds → True) ∧ (Mine.hd.heap_1 = Mine.hd.heap_1) := by
  k_fill; exact ⟨fun _ => trivial, rfl⟩
theorem news2_let {h₀ h : Heap} {L D : Addr} {p : Addr × Obj} {oD : Obj} {r : List (Addr × Obj)} {G : Prop} (N : News h₀ L h (p :: (D, oD) :: r)) (k : let o' : Obj := oD; News h₀ L h (p :: (D, o') :: r) → G) : G := k N
theorem law_led {h₀ h : Heap} {L P D C X : Addr} {oP oD oC oX : Obj} {new : List (Addr × Obj)} (N : News h₀ L h (new ++ [(C, oC), (X, oX)])) (h1 : (P, oP) ∈ new) (h2 : (D, oD) ∈ new) : News h₀ L h ((P, oP) :: (D, oD) :: (C, oC) :: new) := fun p hp => N p (by
  simp only [List.mem_cons, List.mem_append, List.not_mem_nil, or_false] at hp ⊢
  rcases hp with h | h | h | h
  · exact .inl (h ▸ h1)
  · exact .inl (h ▸ h2)
  · exact .inr (.inl h)
  · exact .inl h)
theorem news_tail {h₀ h : Heap} {L : Addr} {a b : List (Addr × Obj)} (N : News h₀ L h (a ++ b)) : News h₀ L h b := fun p hp => N p (List.mem_append_right _ hp)
noncomputable def CSS : List Nat := [90, 42, 36, 43, 45, 57]
theorem six_item {prog : Program} {w : World} {A : Around} {E : Value → Shared → Prop} {s : Shared} {value slice : PySem.Expr} {T : Addr} {ta tb tc td te tf u : Tok} {r : Int} {Q : Value → Shared → Prop}
    (ht : IsTup s.heap T #[.str (Str.ofString "Z") ta, .str (Str.ofString "*") tb, .str (Str.ofString "$") tc, .str (Str.ofString "+") td, .str (Str.ofString "-") te, .str (Str.ofString "9") tf]) (h0 : 0 ≤ r) (h1 : r < (6 : Nat)) (h : ∀ c ∈ CSS, ∀ t, Q (.str (St [c]) t) s)
    (hs : subscripted slice false (.ref T) (.int r u) = operate [.ref T, .int r u] (getItem (.ref T) (.int r u)) := by with_unfolding_all rfl) :
    wpAny (model prog w) A (subscriptTail value slice (.ref T) (.int r u)) Q E s := by
  obtain ⟨j, rfl⟩ := Int.eq_ofNat_of_zero_le h0
  have hj : j = 0 ∨ j = 1 ∨ j = 2 ∨ j = 3 ∨ j = 4 ∨ j = 5 := by omega
  rcases hj with rfl | rfl | rfl | rfl | rfl | rfl
  · exact tail_any ht.typeIs slot_tuple_getitem.lookup (getItem_tuple (j := 0) ht (by decide) (by decide) rfl rfl (by rw [lit_Z]; exact h 90 (by decide) _)) hs
  · exact tail_any ht.typeIs slot_tuple_getitem.lookup (getItem_tuple (j := 1) ht (by decide) (by decide) rfl rfl (by rw [lit_star]; exact h 42 (by decide) _)) hs
  · exact tail_any ht.typeIs slot_tuple_getitem.lookup (getItem_tuple (j := 2) ht (by decide) (by decide) rfl rfl (by rw [lit_dollar]; exact h 36 (by decide) _)) hs
  · exact tail_any ht.typeIs slot_tuple_getitem.lookup (getItem_tuple (j := 3) ht (by decide) (by decide) rfl rfl (by rw [lit_plus]; exact h 43 (by decide) _)) hs
  · exact tail_any ht.typeIs slot_tuple_getitem.lookup (getItem_tuple (j := 4) ht (by decide) (by decide) rfl rfl (by rw [lit_minus]; exact h 45 (by decide) _)) hs
  · exact tail_any ht.typeIs slot_tuple_getitem.lookup (getItem_tuple (j := 5) ht (by decide) (by decide) rfl rfl (by rw [lit_9]; exact h 57 (by decide) _)) hs
section
local macro_rules | `(tactic| walk_at "call ref") => `(tactic| (k_here; refine Held.out ?_))
local macro_rules | `(tactic| walk_at "subscriptTail") => `(tactic| ((with_reducible show wpAny _ _ (subscriptTail (PySem.Expr.Tuple _ _ _) _ _ _) _ _ _); refine Held.out ?_))
local macro_rules | `(tactic| walk_at "eval IfExp") => `(tactic| ((fail_if_success (rename Go 2 => x)); refine Held.out ?_))
local macro_rules | `(tactic| walk_at "pyIter ref") => `(tactic| refine Held.out ?_)
local macro_rules | `(tactic| walk_at "call builtin:list.extend") => `(tactic| refine Held.out ?_)
local macro_rules | `(tactic| walk_at "UnrPost") => `(tactic| refine Held.out ?_)
local macro_rules | `(tactic| walk_at "UnrEnd") => `(tactic| refine Held.out ?_)
local macro_rules | `(tactic| walk_at "exec For Name Call cons nil") => `(tactic| refine Held.out ?_)
local macro_rules | `(tactic| walk_at "exec For") => `(tactic| refine Held.out ?_)
local macro_rules | `(tactic| walk_at "exec For Name Name cons nil") => `(tactic| (k_here; (rename Fr _ _ _ _ => lF'); (with_unfolding_all refine' For_turns lF' ?_; k_whole)))
local macro_rules | `(tactic| walk_at "exec For Name IfExp cons nil") => `(tactic| (k_here; (rename Fr _ _ _ _ => lF'); (with_unfolding_all refine' For_turns lF' ?_; k_whole)))
local macro_rules | `(tactic| walk_at "binaryOp Mult int int") => `(tactic| ((with_reducible show wpAny _ _ (binaryOp Operator.Mult (Value.int (Int.fmod _ _) _) _) _ _ _); refine Held.out ?_))
local macro_rules | `(tactic| k_qdec) => `(tactic| decide +kernel)
set_option maxHeartbeats 20000000 in
theorem law_holds : PySem.Challenge.rw_pb0263_01.Holds := Mine.hd (by
  k_go0
  rename Shared => sB
  obtain ⟨hB, gB, dB, kB, oB⟩ := sB
  refine wpAny_mono (Q := fun f s' => Held (∃ h' tk m', f = Flow.ret (Value.bool true) ∧ s' = ⟨h', gB, dB, tk, oB⟩ ∧ Fr hB hB.objs.size h' m')) (E := fun _ _ => False) ?walk ?fin (fun _ _ he => he.elim)
  case fin =>
    rintro f s' ⟨⟨h', tk, m', rfl, rfl, FF⟩⟩
    (try dsimp only)
    wrow_close
  case walk =>
  rename Fr _ _ _ _ => FF0
  refine fr_named FF0 ?_
  clear FF0
  intro mF F0
  (try dsimp only)
  refine wp_named ?_
  intro AF EF
  k_steps
  refine ⟨?_⟩
  rename News _ _ _ (_ :: (_, LCg.lst _) :: _) => NN
  rename IntsAre _ (List.map _ _) => hI8
  refine' Pure.use (c_cell _ _ _ _ _ 0 6 _ _ (symE NN (.tail _ (.head _))) hI8 (by rw [List.length_map, List.length_take]; omega) (by omega) (by omega)) ?k1 ?k2 ?k3 NN ?k5 rfl (by decide) (by decide) ?_
  case k1 => k_asm
  case k2 => k_asm
  case k3 => k_asm
  case k5 => k_asm
  intro v9 new9 h9 tk9 F9 N9 D9 P9
  obtain ⟨rfl, r0, t9, rfl, hr0, hr1⟩ := P9
  simp only [List.nil_append] at N9
  (try dsimp only); (try k_fold)
  clear D9
  k_steps
  refine ⟨?_⟩
  refine six_item ⟨_, newsGet (by k_asm) (.head _), rfl, _, rfl⟩ hr0 hr1 ?_
  intro c hc t8
  (try show wpAny _ _ _ _ _ _)
  k_steps
  refine ⟨?_⟩
  rename News _ _ _ _ => NN
  refine' Pure.use (c_cell _ _ _ _ _ 1 4 _ _ (symE NN (by k_mem)) hI8 (by rw [List.length_map, List.length_take]; omega) (by omega) (by omega)) ?k1 ?k2 ?k3 NN ?k5 rfl (by decide) (by decide) ?_
  case k1 => k_asm
  case k2 => k_asm
  case k3 => k_asm
  case k5 => k_asm
  intro v9 new9 h9 tk9 F9 N9 D9 P9
  obtain ⟨rfl, r1, t9, rfl, hr1, hr1'⟩ := P9
  simp only [List.nil_append] at N9
  (try dsimp only); (try k_fold)
  clear D9
  k_steps
  refine ⟨?_⟩
  rename News _ _ _ _ => NN
  refine' Pure.use (c_cell _ _ _ _ _ 2 2 _ _ (symE NN (by k_mem)) hI8 (by rw [List.length_map, List.length_take]; omega) (by omega) (by omega)) ?k1 ?k2 ?k3 NN ?k5 rfl (by decide) (by decide) ?_
  case k1 => k_asm
  case k2 => k_asm
  case k3 => k_asm
  case k5 => k_asm
  intro v9 new9 h9 tk9 F9 N9 D9 P9
  obtain ⟨rfl, r2, t9, rfl, hr2, hr2'⟩ := P9
  simp only [List.nil_append] at N9
  (try dsimp only); (try k_fold)
  clear D9
  k_steps
  refine ⟨?_⟩
  rename Fr _ _ _ _ => FFz
  dsimp +zetaDelta only at FFz
  have hg0 : 2 ≤ 2 + r1 ∧ 2 + r1 ≤ 5 := by omega
  generalize hgg : 2 + r1 = g at *
  generalize hbb : (r2 == (1 : Int)) = b at *
  obtain ⟨gn, rfl⟩ := Int.eq_ofNat_of_zero_le (show 0 ≤ g by omega)
  refine fr_named FFz ?_
  clear FFz
  intro mz Fz
  rename News _ _ _ _ => NN
  replace NN := ord_drop (ord_drop NN)
  refine mono_val (fun v => ∃ (kn : Nat) (t : Tok), v = .int (kn : Int) t ∧ (c = 57 ∧ kn = 3 * gn ∨ c ≠ 57 ∧ kn < 5)) (by k_asm) NN ?A1 ?B1
  case A1 =>
    have go2 : Go 2 := ⟨trivial⟩
    k_steps
    · rename ((_ == _) = true) => he
      rw [lit_9, st_beq, beq_iff_eq] at he
      injection he with he
      refine ⟨⟨3 * gn, _, congrArg (Value.int · _) ?_, .inl ⟨he, rfl⟩⟩, _, _, rfl, by k_asm, by k_asm⟩
      omega
    · rename ((_ == _) = false) => he
      rw [lit_9, st_beq, beq_eq_false_iff_ne] at he
      refine ⟨?_⟩
      rename News _ _ _ _ => NN
      refine' Pure.use (c_cell _ _ _ _ _ 3 5 _ _ (symE NN (by k_mem)) hI8 (by rw [List.length_map, List.length_take]; omega) (by omega) (by omega)) ?k1 ?k2 ?k3 NN ?k5 rfl (by decide) (by decide) ?_
      case k1 => k_asm
      case k2 => k_asm
      case k3 => k_asm
      case k5 => k_asm
      intro v9 new9 h9 tk9 F9 N9 D9 P9
      obtain ⟨rfl, r3, t9, rfl, hr3, hr3'⟩ := P9
      simp only [List.nil_append] at N9
      obtain ⟨r3n, rfl⟩ := Int.eq_ofNat_of_zero_le hr3
      exact ⟨⟨r3n, _, rfl, .inr ⟨fun e => he (by rw [e]), by omega⟩⟩, _, _, rfl, F9, N9⟩
  case B1 =>
    rintro v k8 h8 ⟨kn, tk8, rfl, hk8⟩ F8 N8
    (try show wpAny _ _ _ _ _ _)
    k_steps
    refine ⟨?_⟩
    obtain ⟨hpk, hnk, hk3, hk15⟩ := law_pics (b := b) hc (by omega : 2 ≤ gn ∧ gn ≤ 5) hk8
    rename News _ _ _ _ => NN
    refine' Pure.use (c_picture _ _ c (gn : Int) (kn : Int) b _ _ _ hc (by omega) (by omega)) ?k1 ?k2 ?k3 NN ?k5 rfl (by decide) (by decide) ?_
    case k1 => k_asm
    case k2 => k_asm
    case k3 => k_asm
    case k5 => k_asm
    intro v9 new9 h9 tk9 F9 N9 D9 P9
    obtain ⟨rfl, t9, rfl⟩ := P9
    rw [Int.toNat_natCast, Int.toNat_natCast]
    simp only [List.nil_append] at N9
    (try dsimp only); (try k_fold)
    clear D9
    k_steps
    refine ⟨?_⟩
    rename News _ _ _ _ => NN
    refine' Pure.use (c_read' _ _ c gn kn b _ hpk hnk (by omega)) ?k1 ?k2 ?k3 NN ?k5 rfl (by decide) (by decide) ?_
    case k1 => k_asm
    case k2 => k_asm
    case k3 => k_asm
    case k5 => k_asm
    intro v9 new9 h9 tk9 F9 N9 D9 P9
    have hPI := P9
    obtain ⟨P, D, lp, itsP, nP, cat, sg, k0, k1, k2, k3, k4, k5, k6, tt0, tt2, tt3, tt4, tt6, rfl, hP1, hP2, hP3, hPs⟩ := P9
    replace N9 := law_led N9 hP1 hP2
    clear D9 NN
    obtain ⟨hpl, hpa, hpf⟩ := pic_len hpk
    generalize htx : picText c gn kn b = tx at *
    refine news2_let N9 ?_
    clear N9
    intro oD N9
    have hLt : (St tx).length = tx.length := st_length _
    (try dsimp only); (try k_fold)
    k_steps
    refine ⟨?_⟩
    rename Fr _ _ _ _ => FF
    refine' For_invVF FF ?k1 ?k2 ?_
    case k1 => exact rfl
    case k2 => exact rfl
    k_steps
    refine ⟨?_⟩
    rename IsRange _ _ _ _ _ _ _ _ => hRg
    rename News _ _ _ _ => NN
    rename Fr _ _ _ _ => FF
    refine krs_nums (ns₀ := [0, 1, 99, 100, 12345]) (B := 20) rfl hRg (range_n (g := gn) (by omega)).1 (range_n (g := gn) (by omega)).2 FF NN (.cons _ _ (.cons _ _ (.cons _ _ (.cons _ _ (.cons _ _ .nil))))) (by simp; omega) ?nil ?turn
    case turn =>
      intro I js nn ns k i t h5 tk5 o hI hin hints hB F5 N5
      replace hI := allLt_of hI
      simp only [AllLt] at hI
      have hjs : js.size = ns.length := by rw [← hints.length, Array.length_toList]
      have hv0 : (0 : Int) ≤ 1 + (i : Int) * 3 ∧ (1 : Int) + (i : Int) * 3 ≤ 20 := by omega
      generalize (1 : Int) + (i : Int) * 3 = v at *
      k_steps
      refine ⟨?_⟩
      refine' kl_extend (its := js) ?xF ?xN ?xb ?xe ?xne ?xU ?xd ?xz ?xy ?_
      case xF => k_asm
      case xN => k_asm
      case xb => exact .head _
      case xe => exact rfl
      case xU => k_upd
      case xne => exact Nat.succ_ne_zero _
      case xd => simp [Builtin.List.listTooLong, sizeLine]; omega
      case xz => simp [sizeLine]; omega
      case xy => simp [sizeLine]; omega
      intro h7 F7 N7
      k_steps
      refine ⟨?_⟩
      dsimp only [UnrPost]
      refine UnrEnd.intro F7 N7 _ (fun p hp => .tail _ hp) (List.forall_mem_cons.mpr ⟨neN (by omega), List.forall_mem_cons.mpr ⟨neN (by omega), List.forall_mem_cons.mpr ⟨neN (by omega), List.forall_mem_cons.mpr ⟨neN (by omega), neAll hI.2.2.2.2⟩⟩⟩⟩) ⟨⟨_, _, ns ++ [_, _], fun z hz => if_neg hz, rfl, ints_app hints (.cons _ _ (.cons _ _ .nil)), ?_⟩⟩
      rw [List.length_append]
      show ns.length + 2 + 2 * k ≤ 20
      omega
    case nil =>
      intro js nn ns u h5 tk5 hints hB F5 N5
      clear hRg FF NN
      k_steps
      refine ⟨?_⟩
      rename Fr _ _ _ _ => FF
      refine' For_invVF FF ?k1 ?k2 ?_
      case k1 => exact rfl
      case k2 => exact rfl
      k_steps
      refine ⟨?_⟩
      rename IsRange _ _ _ _ _ _ _ _ => hRg
      rename News _ _ _ _ => NN
      rename Fr _ _ _ _ => FF
      refine krs_nums (ns₀ := ns) (B := 26) (n := 3) rfl hRg (by decide) (by decide) FF NN hints (by omega) ?nil ?turn
      case turn =>
        intro I js nn ns k i t h5 tk5 o hI hin hints hB F5 N5
        replace hI := allLt_of hI
        simp only [AllLt] at hI
        have hjs : js.size = ns.length := by rw [← hints.length, Array.length_toList]
        have hv0 : (0 : Int) ≤ 0 + (i : Int) * 1 ∧ (0 : Int) + (i : Int) * 1 ≤ 2 := by omega
        generalize (0 : Int) + (i : Int) * 1 = v at *
        k_steps
        refine ⟨?_⟩
        refine mono_val (fun v => ∃ (x : Int) (t : Tok), v = .int x t) F5 N5 ?A1 ?B1
        case A1 =>
          have go2 : Go 2 := ⟨trivial⟩
          k_steps
          · exact ⟨⟨_, _, rfl⟩, _, _, rfl, by k_asm, by k_asm⟩
          · exfalso
            rename (_ = (0 : Int)) => hz
            have : (0 : Int) < 7 ^ v.toNat := Int.pow_pos (by decide)
            omega
          · exact ⟨⟨_, _, rfl⟩, _, _, rfl, by k_asm, by k_asm⟩
        case B1 =>
          rintro v k8 h8 ⟨xx, tk8, rfl⟩ F8 N8
          (try show wpAny _ _ _ _ _ _)
          k_steps
          refine ⟨?_⟩
          dsimp only [UnrPost]
          rename News _ _ _ _ => N7
          rename Fr _ _ _ _ => F7
          refine UnrEnd.intro F7 N7 _ (fun p hp => hp) (List.forall_mem_cons.mpr ⟨neN (by omega), List.forall_mem_cons.mpr ⟨neN (by omega), List.forall_mem_cons.mpr ⟨neN (by omega), List.forall_mem_cons.mpr ⟨neN (by omega), neAll hI.2.2.2.2⟩⟩⟩⟩) ⟨⟨_, _, ns ++ [xx], fun z hz => if_neg hz, rfl, ?_, ?_⟩⟩
          · rw [Array.toList_push]
            exact ints_app hints (.cons _ _ .nil)
          · rw [List.length_append]
            show ns.length + 1 + 2 * k ≤ 26
            omega
      case nil =>
        intro js nn ns u h5 tk5 hints hB F5 N5
        clear hRg FF NN
        k_steps
        refine ⟨?_⟩
        refine mono_val (fun v => ∃ (t : Tok), v = .int (((if b then 2 else 0 : Nat)) : Int) t) F5 N5 ?A1 ?B1
        case A1 =>
          have go2 : Go 2 := ⟨trivial⟩
          k_steps
          · rename (b = true) => hb
            subst hb
            exact ⟨⟨_, rfl⟩, _, _, rfl, by k_asm, by k_asm⟩
          · rename (b = false) => hb
            subst hb
            exact ⟨⟨_, rfl⟩, _, _, rfl, by k_asm, by k_asm⟩
        case B1 =>
          rintro v k8 h8 ⟨tk8, rfl⟩ F8 N8
          (try show wpAny _ _ _ _ _ _)
          k_steps
          refine ⟨?_⟩
          rename News _ _ _ _ => NN
          rename Fr _ _ _ _ => FF
          refine iter_listTurns rfl FF NN (.head _) rfl (arr_lst js nn) ?_
          intro I hI
          replace hI := allLt_of hI
          simp only [AllLt] at hI
          refine' rest_loopB (β := Addr × List (Addr × Obj)) (σ := Unit) (_, _ :: _ :: _ :: _) (fun b _ => []) (fun b _ => (b.1, listOf js nn) :: b.2) ["number", "units", "left_units"]
            (fun b xs _ => ∃ ws : List Value, xs = ws.map Itm.val ∧ ∀ v ∈ ws, ∃ (x : Int) (t : Tok), v = Value.int x t) () ?zm rfl ?zR ?znil ?zcons
          case zm => intro p hp; cases hp
          case zR => exact ⟨js.toList, rfl, ints_get hints⟩
          case znil =>
            rintro _ u h6 tk6 ⟨ws, hxs, hws⟩ F6 N6
            dsimp only [kstB] at F6 N6
            k_steps
            exact ⟨⟨_, _, _, rfl, rfl, by k_asm⟩⟩
          case zcons =>
            rintro _ u a r ⟨ws, hxs, hws⟩
            cases ws with
            | nil => cases hxs
            | cons y ws =>
              injection hxs with e1 e2
              subst e1 e2
              obtain ⟨y, ty, rfl⟩ := hws _ (.head _)
              rintro v h6 tk6 rfl F6
              clear FF NN F8 N8 F5 N5
              ktu_objs
              dsimp only [kstB] at *
              k_steps
              refine ⟨?_⟩
              rename News _ _ _ _ => NN
              rename Fr _ _ _ _ => FF
              refine mono_tup FF NN ?yA ?yB
              case yA =>
                have go2 : Go 2 := ⟨trivial⟩
                k_steps
                · rename News _ _ _ _ => N7
                  rename Fr _ _ _ _ => F7
                  exact tup_ret (us := [_, _]) (.cons _ _ (.cons _ _ .nil)) (Nat.le_refl 2) F7 N7
                · rename News _ _ _ _ => N7
                  rename Fr _ _ _ _ => F7
                  exact tup_ret (us := [_, _]) (.cons _ _ (.cons _ _ .nil)) (Nat.le_refl 2) F7 N7
                · rename News _ _ _ _ => N7
                  rename Fr _ _ _ _ => F7
                  exact tup_ret (us := [_]) (.cons _ _ .nil) (Nat.le_succ 1) F7 N7
              case yB =>
                clear FF NN
                intro T us ms k9 h9 hus hul F9 N9
                (try show wpAny _ _ _ _ _ _)
                k_steps
                refine ⟨?_⟩
                rename News _ _ _ _ => NN
                rename Fr _ _ _ _ => FF
                refine iter_tupTurns rfl FF NN (.head _) rfl rfl ?_
                intro I2 hI2
                replace hI2 := allLt_of hI2
                simp only [AllLt] at hI2
                refine' rest_loopB (β := List (Addr × Obj)) (σ := Unit) (_ :: _ :: _ :: _) (fun b _ => []) (fun b _ => b) ["units", "left_units"]
                  (fun b xs _ => ∃ ws : List Value, xs = ws.map Itm.val ∧ ∀ v ∈ ws, ∃ (x : Int) (t : Tok), v = Value.int x t) () ?um rfl ?uR ?unil ?ucons
                case um => intro p hp; cases hp
                case uR => exact ⟨us, rfl, ints_get hus⟩
                case unil =>
                  rintro _ u2 h6 tk6 ⟨ws2, hxs2, hws2⟩ F6 N6
                  dsimp only [kstB] at F6 N6
                  k_steps
                  refine unr_end1 F6 N6 _ (.tail _ (.head _)) (fun p hp => .tail _ (.tail _ hp)) (List.forall_mem_cons.mpr ⟨neN (by omega), List.forall_mem_cons.mpr ⟨neN (by omega), List.forall_mem_cons.mpr ⟨neN (by omega), List.forall_mem_cons.mpr ⟨neN (by omega), neAll hI.2.2.2.2⟩⟩⟩⟩) ⟨⟨.head _, trivial⟩, ⟨⟨(), (fun p hp => nomatch hp), ?_, rfl, ws, rfl, fun v hv => hws v (.tail _ hv)⟩⟩⟩
                  intro z _ hs
                  have hs' := hs
                  simp only [List.contains_cons, List.contains_nil, Bool.or_false, Bool.or_eq_false_iff, beq_eq_false_iff_ne, ne_eq] at hs'
                  simp +zetaDelta only [List.contains_cons, List.contains_nil, hs', if_false, Bool.false_eq_true, beq_eq_false_iff_ne.mpr hs'.1, beq_eq_false_iff_ne.mpr hs'.2.1, beq_eq_false_iff_ne.mpr hs'.2.2, Bool.or_false]
                case ucons =>
                  rintro _ u2 a2 r2' ⟨ws2, hxs2, hws2⟩
                  cases ws2 with
                  | nil => cases hxs2
                  | cons y2 ws2 =>
                    injection hxs2 with e1 e2
                    subst e1 e2
                    obtain ⟨U, tU, rfl⟩ := hws2 _ (.head _)
                    rintro v h6 tk6 rfl F6
                    clear FF NN
                    ktu_objs
                    dsimp only [kstB] at F6
                    have hsc : (0 : Int) ≤ 3 * (gn : Int) + (((if b then 2 else 0 : Nat)) : Int) ∧ 3 * (gn : Int) + (((if b then 2 else 0 : Nat)) : Int) ≤ 17 := by split <;> omega
                    k_steps
                    refine ⟨?_⟩
                    rename News _ _ _ _ => NN
                    rename Fr _ _ _ _ => FF
                    refine mono_val (fun v => ∃ (σ : Int) (t : Tok), v = .int σ t ∧ ((0 < U ∧ σ = 1) ∨ (¬ 0 < U ∧ σ = -1))) FF NN ?sA ?sB
                    case sA =>
                      have go2 : Go 2 := ⟨trivial⟩
                      k_steps
                      · exact ⟨⟨_, _, rfl, .inl ⟨by assumption, rfl⟩⟩, _, _, rfl, by k_asm, by k_asm⟩
                      · exact ⟨⟨_, _, rfl, .inr ⟨by assumption, rfl⟩⟩, _, _, rfl, by k_asm, by k_asm⟩
                    case sB =>
                      clear NN FF
                      rintro v k8 h8 ⟨sg, tk8, rfl, hsg⟩ F8 N8
                      (try show wpAny _ _ _ _ _ _)
                      k_steps
                      refine ⟨?_⟩
                      refine mul_int ?_ (by rcases hsg with ⟨_, rfl⟩ | ⟨_, rfl⟩ <;> exact IntMulOk.of_right (by decide))
                      obtain ⟨f1, f2, f3⟩ := left_facts U (gn := gn) (b := b) (by omega) (σ := sg) hsg
                      generalize (if U < 0 then -U else U).fmod (10 ^ (3 * (gn : Int) + (((if b then 2 else 0 : Nat)) : Int)).toNat) * sg = X at f1 f2 f3 ⊢
                      have heq : editSpec tx (dgOf gn b) tx.length U = dueSpec c tx.length kn b X := by
                        have := edit_due hpk (by omega) hk3 U X f1 f2
                        rwa [htx] at this
                      (try dsimp only); (try k_fold)
                      k_steps
                      refine ⟨?_⟩
                      rename News _ _ _ _ => NN
                      rename Fr _ _ _ _ => FF
                      refine' Pure.use (c_decimal _ _ U (((if b then 2 else 0 : Nat)) : Int) _ _ (by split <;> omega)) ?v1 FF ?v3 NN ?v5 rfl (by decide) (by decide) ?_
                      case v1 => k_asm
                      case v3 => k_asm
                      case v5 => k_asm
                      clear NN FF
                      intro v10 new10 h10 tk10 F10 N10 D10 P10
                      obtain ⟨T2, u', s', t3, t4, rfl, rfl, hs0, hs1, hs2⟩ := P10
                      simp only [List.cons_append, List.nil_append] at N10
                      (try dsimp only); (try k_fold)
                      clear D10
                      k_steps
                      refine ⟨?_⟩
                      rename News _ _ _ _ => NN
                      rename Fr _ _ _ _ => FF
                      refine' Pure.use (c_edited _ _ (.ref P) tx (dgOf gn b) tx.length _ T2 u' s' _ _ (hPI.at NN (fun p hp => by simp only [List.mem_cons, hp, or_true])) hpl hpa hpl ⟨_, newsGet NN (.head _), rfl, _, rfl⟩ ⟨hs0, hs1, by split <;> omega⟩ ⟨by unfold dgOf; omega, by unfold dgOf; split <;> omega⟩ U hs2 hpf) ?v1 FF ?v3 NN ?v5 rfl (by decide) (by decide) ?_
                      case v1 => k_asm
                      case v3 => k_asm
                      case v5 => k_asm
                      clear FF
                      intro v10 new10 h10 tk10 F10 N10 D10 P10
                      obtain ⟨t10, e10⟩ := P10
                      rw [heq] at e10
                      subst e10
                      replace N10 := news_tail N10
                      clear D10 NN
                      (try dsimp only); (try k_fold)
                      k_steps
                      refine ⟨?_⟩
                      rename News _ _ _ _ => NN
                      rename Fr _ _ _ _ => FF
                      refine' Pure.use (c_due _ _ c tx.length kn b X _ _ _ _ hpl hk15 f3) ?v1 FF ?v3 NN ?v5 rfl (by decide) (by decide) ?_
                      case v1 => k_asm
                      case v3 => k_asm
                      case v5 => k_asm
                      clear FF
                      intro v10 new10 h10 tk10 F10 N10 D10 P10
                      obtain ⟨t11, rfl⟩ := P10
                      replace N10 := news_tail N10
                      clear D10 NN
                      clear heq
                      generalize dueSpec c tx.length kn b X = A
                      (try dsimp only); (try k_fold)
                      k_steps
                      · exfalso
                        rename ((_ != _) = true) => hne
                        exact absurd hne (by simp)
                      refine unr_end1 F10 N10 _ (.tail _ (.head _)) (fun p hp => .tail _ (.tail _ hp)) (List.forall_mem_cons.mpr ⟨neN (by omega), List.forall_mem_cons.mpr ⟨neN (by omega), List.forall_mem_cons.mpr ⟨neN (by omega), List.forall_mem_cons.mpr ⟨neN (by omega), List.forall_mem_cons.mpr ⟨neN (by omega), List.forall_mem_cons.mpr ⟨neN (by omega), neAll hI2.2.2.2.2.2.2⟩⟩⟩⟩⟩⟩) ⟨⟨.head _, trivial⟩, ⟨⟨(), (fun p hp => nomatch hp), ?_, rfl, ws2, rfl, fun v hv => hws2 v (.tail _ hv)⟩⟩⟩
                      intro z _ hs
                      have hs' := hs
                      simp only [List.contains_cons, List.contains_nil, Bool.or_false, Bool.or_eq_false_iff, beq_eq_false_iff_ne, ne_eq] at hs'
                      simp +zetaDelta only [List.contains_cons, List.contains_nil, hs', if_false, Bool.false_eq_true, beq_eq_false_iff_ne.mpr hs'.1, beq_eq_false_iff_ne.mpr hs'.2, Bool.or_false])
end
end C_s18_part
end Mine
theorem PySem.Challenge.cw_pb0263_01_holds : PySem.Challenge.rw_pb0263_01.Holds := by
  exact Mine.law_holds
