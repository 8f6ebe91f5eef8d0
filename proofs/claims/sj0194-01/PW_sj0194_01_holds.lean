import PyProof.Rows.All
import Wide.All
import OpenK.AllK
import Wide.FinOn
import Lean
import PySem.Challenge.RW_sj0194_01
set_option Elab.async false
set_option maxRecDepth 100000
set_option maxHeartbeats 8000000
set_option pp.deepTerms false
set_option pp.deepTerms.threshold 4
set_option linter.unusedVariables false
section
open PySem PySem.W PyProof.Rows PySem.Calls
namespace Mine
noncomputable def topRunT (tb : String → Option Builtin) (p : Program) (w : World) (n₀ : Nat) (ann : Option Value) : Nat → SharedT → Thread → Option SharedT
  | 0, _, _ => none
  | n + 1, s, t => match through t with
    | true => some s
    | false => match stepOk n₀ ann t with
      | false => none
      | true => match stepT (denote tb) p w s t with
        | some (s', t') => topRunT tb p w n₀ ann n s' t'
        | none => none
theorem topRunT_of {tb : String → Option Builtin} {p : Program} {w : World} {n₀ : Nat} {ann : Option Value} : ∀ {n : Nat} {s r : SharedT} {t : Thread},
    topRunT tb p w n₀ ann n s t = some r → topRun tb p w n₀ ann n s.abs t = some r.abs
  | 0, _, _, _, h => by cases h
  | n + 1, s, r, t, h => by
    unfold topRunT at h
    unfold topRun
    cases ht : through t with
    | true => rw [ht] at h; cases h; rfl
    | false =>
      rw [ht] at h
      cases hk : stepOk n₀ ann t with
      | false => rw [hk] at h; cases h
      | true =>
        rw [hk] at h
        cases hs : stepT (denote tb) p w s t with
        | none => rw [hs] at h; cases h
        | some x =>
          obtain ⟨s₂, t₂⟩ := x
          rw [hs] at h
          dsimp only
          rw [stepT_spec hs]
          exact topRunT_of h
def endLook {α : Type} (p q : Program) (loose : List Str) (Xt : Shared → Bool) (Yf : Shared → α) (g0 : Bool) (h₀ : Heap) (s : Shared) :=
  ((staticsOk (importedModules p.main.body) h₀ s.heap && namesBound p s.heap && gensDone s && laidKept h₀ s.heap), openSeen q loose (importedModules p.main.body) Xt g0 s, Yf s)
theorem left_T {p q : Program} {loose : List Str} {Xt : Shared → Bool} {α : Type} {Yf : Shared → α} {Ya : World → α} {N : Nat} {g0 : Bool} {T₀ : Params → BT} {n₀ : Nat} {life : Life} {m₀ : Nat} {ann : Option Value}
    (open_ : ∀ w : World, (fencedOpening treeTable p w N).map (fun s => (s.heap, s.gens, s.drawn, s.toks)) = some (boot_heap w.params, Array.mk [], boot_drawn, boot_toks))
    (h0 : ∀ P : Params, absHeap (T₀ P) n₀ life = boot_heap P)
    (size : ∀ w : World, ((boot_heap w.params).isNs mainGlobals, (boot_heap w.params).objs.size, (boot_heap w.params).nsMap mainGlobals "__annotations__") = (true, m₀, ann))
    (all : ∀ w : World, (fun os => (topRunT treeTable p w m₀ ann N ⟨T₀ w.params, n₀, life, Array.mk [], boot_drawn, boot_toks, os⟩ (topStub p)).map fun s => endLook p q loose Xt Yf g0 (boot_heap w.params) s.abs) =
      fun _ => some (true, openGood q loose, Ya w)) : LeftO p q loose Xt Yf Ya N g0 := fun w => by
  obtain ⟨⟨h, gs, d, k, os⟩, e, e'⟩ := Option.map_eq_some_iff.mp (open_ w)
  obtain ⟨rfl, rfl, rfl, rfl⟩ : h = boot_heap w.params ∧ gs = Array.mk [] ∧ d = boot_drawn ∧ k = boot_toks := by simpa using e'
  obtain ⟨z1, z2, z3⟩ : _ ∧ _ ∧ _ := by simpa only [Prod.mk.injEq] using size w
  obtain ⟨r, hr, l⟩ := Option.map_eq_some_iff.mp (congrFun (all w) os)
  unfold endLook at l
  obtain ⟨l1, l2, l3⟩ : _ ∧ _ ∧ _ := by simpa only [Prod.mk.injEq] using l
  have r' := topRunT_of hr
  have ea : (SharedT.abs ⟨T₀ w.params, n₀, life, Array.mk [], boot_drawn, boot_toks, os⟩) = ⟨boot_heap w.params, Array.mk [], boot_drawn, boot_toks, os⟩ := by
    unfold SharedT.abs; rw [h0]
  rw [ea] at r'
  have t : topFrom treeTable p w N ⟨boot_heap w.params, Array.mk [], boot_drawn, boot_toks, os⟩ = some r.abs := by
    unfold topFrom
    dsimp only
    rw [z1, z2, z3, r']
    show (match staticsOk (importedModules p.main.body) (boot_heap w.params) r.abs.heap && namesBound p r.abs.heap && gensDone r.abs && laidKept (boot_heap w.params) r.abs.heap with | true => _ | false => _) = _
    rw [l1]
  unfold openEnds
  rw [e]
  show (topFrom treeTable p w N _).map _ = _
  rw [t]
  exact congrArg some (Prod.ext l2 l3)

noncomputable def T₀ (P : Params) : BT := (.node (boot_o_0 P) (.node (boot_o_1 P) (.node (boot_o_3 P) (.node (boot_o_7 P) .nil .nil) .nil) (.node (boot_o_5 P) (.node (boot_o_9 P) .nil .nil) .nil)) (.node (boot_o_2 P) (.node (boot_o_4 P) (.node (boot_o_8 P) .nil .nil) .nil) (.node (boot_o_6 P) (.node (boot_o_10 P) .nil .nil) .nil)))
theorem T₀_abs (P : Params) : absHeap (T₀ P) 11 {} = boot_heap P := by rfl
theorem open0 : ∀ w : World, (fencedOpening treeTable PySem.Challenge.rw_sj0194_01.row.prog w 6558).map (fun s => (s.heap, s.gens, s.drawn, s.toks)) = some (boot_heap w.params, Array.mk [], boot_drawn, boot_toks) :=
  boot_open (by kernel_rfl) (by decide) (by intro s; kernel_rfl)
theorem size0 (w : World) : ((boot_heap w.params).isNs mainGlobals, (boot_heap w.params).objs.size, (boot_heap w.params).nsMap mainGlobals "__annotations__") = (true, 11, some (.ref 6)) := by kernel_rfl
abbrev pick {p : Program} {s0 s1 s2 s3 s4 s5 s6 s7 s8 s9 s10 s11 s12 s13 s14 s15 s16 s17 s18 s19 s20 s21 s22 s23 s24 s25 s26 s27 s28 s29 s30 s31 s32 s33 s34 s35 s36 s37 s38 s39 s40 s41 : Stmt} (_ : p.main.body = [s0, s1, s2, s3, s4, s5, s6, s7, s8, s9, s10, s11, s12, s13, s14, s15, s16, s17, s18, s19, s20, s21, s22, s23, s24, s25, s26, s27, s28, s29, s30, s31, s32, s33, s34, s35, s36, s37, s38, s39, s40, s41]) : Program := { p with main := { p.main with body := [s1, s2, s3, s4, s5, s6, s7, s8, s9, s10, s11, s12, s13, s15, s16, s17, s18, s19, s20, s21, s22, s23, s24, s25, s27, s28, s30, s31, s32, s33, s34, s35, s36, s38, s39, s40, s41] } }
noncomputable def view : Program := pick (p := PySem.Challenge.rw_sj0194_01.row.prog) rfl
theorem said0 : PySem.W.OpenLaw.wellSaid PySem.Challenge.rw_sj0194_01 = true := by
  rewrite [PySem.W.Fast.te9446332074065402090]
  kernel_rfl
end Mine
lay_quick Mine.topRunT Mine.endLook
namespace Mine
section
local macro_rules | `(tactic| o_law) => `(tactic| refine holds_law Mine.said0 fun said => ?_)
local macro_rules | `(tactic| o_head $H) => `(tactic| (
  (refine holds_open (q := Mine.view) (loose := [PySem.Str.ofString "SnobolError"]) (Xt := fun s => xlAt Mine.view [] s && recOk (RowW.records (OpenRow.toRowW PySem.Challenge.rw_sj0194_01.row)) s) (XP := XL Mine.view []) (Yf := Hook.obs $H) (Ya := Hook.val $H) (YP := Hook.says $H) (N := 6558) ?hl (Hook.of $H) (Hook.keeps $H) (fun s e => xl_of s (Bool.and_eq_true_iff.mp e).1) XL.keeps (by rfl) (by rfl) (by rfl) (fun s e => recFacts_of (Bool.and_eq_true_iff.mp e).2) (by rfl) (by first | assumption | decide +kernel) (by decide +kernel) ⟨rfl, rfl, rfl, rfl, rfl, by decide +kernel⟩ ?hw ?hc)
  case hl =>
    refine Mine.left_T (T₀ := Mine.T₀) Mine.open0 Mine.T₀_abs Mine.size0 ?_
    intro w
    rewrite [PySem.W.Fast.te8941956224279638915, PySem.W.Fast.te17006519350225527370, PySem.W.Fast.te14364793385576792824]
    kernel_rfl
  (all_goals (rename_i hs; clear hs))))
open_top hd for PySem.Challenge.rw_sj0194_01
end
end Mine
end
local macro_rules | `(tactic| walk_at "CompSrc") => `(tactic| k_extra "CompSrc")
local macro_rules | `(tactic| walk_at "binaryOp Add ref ref") => `(tactic| k_extra "binaryOp Add ref ref")
local macro_rules | `(tactic| walk_at "call builtin:isinstance") => `(tactic| k_extra "call builtin:isinstance")
local macro_rules | `(tactic| walk_at "call builtin:len") => `(tactic| k_extra "call builtin:len")
local macro_rules | `(tactic| walk_at "call builtin:list.append") => `(tactic| k_extra "call builtin:list.append")
local macro_rules | `(tactic| walk_at "call builtin:list.extend") => `(tactic| k_extra "call builtin:list.extend")
local macro_rules | `(tactic| walk_at "call builtin:list.pop") => `(tactic| k_extra "call builtin:list.pop")
local macro_rules | `(tactic| walk_at "call builtin:min") => `(tactic| k_extra "call builtin:min")
local macro_rules | `(tactic| walk_at "call builtin:ord") => `(tactic| k_extra "call builtin:ord")
local macro_rules | `(tactic| walk_at "call ref") => `(tactic| k_extra "call ref")
local macro_rules | `(tactic| walk_at "call type:dict") => `(tactic| k_extra "call type:dict")
local macro_rules | `(tactic| walk_at "compareOp Eq int int") => `(tactic| k_extra "compareOp Eq int int")
local macro_rules | `(tactic| walk_at "compareOp In str str") => `(tactic| k_extra "compareOp In str str")
local macro_rules | `(tactic| walk_at "compareOp NotEq int int") => `(tactic| k_extra "compareOp NotEq int int")
local macro_rules | `(tactic| walk_at "compareOp NotIn int ref") => `(tactic| k_extra "compareOp NotIn int ref")
local macro_rules | `(tactic| walk_at "eval ListComp") => `(tactic| k_extra "eval ListComp")
local macro_rules | `(tactic| walk_at "exec Assign cons ListComp") => `(tactic| k_extra "exec Assign cons ListComp")
local macro_rules | `(tactic| walk_at "exec For Name Call cons nil") => `(tactic| k_extra "exec For Name Call cons nil")
local macro_rules | `(tactic| walk_at "exec For Name Name cons nil") => `(tactic| k_extra "exec For Name Name cons nil")
local macro_rules | `(tactic| walk_at "exec If") => `(tactic| k_extra "exec If")
local macro_rules | `(tactic| walk_at "exec While Compare cons nil") => `(tactic| k_extra "exec While Compare cons nil")
local macro_rules | `(tactic| walk_at "pyIter ref") => `(tactic| k_extra "pyIter ref")
local macro_rules | `(tactic| walk_at "pyIter str") => `(tactic| k_extra "pyIter str")
local macro_rules | `(tactic| walk_at "setItem ref int") => `(tactic| k_extra "setItem ref int")
local macro_rules | `(tactic| walk_at "setItem ref ref") => `(tactic| k_extra "setItem ref ref")
local macro_rules | `(tactic| walk_at "subscriptTail List Name ref int") => `(tactic| k_extra "subscriptTail List Name ref int")
local macro_rules | `(tactic| walk_at "subscriptTail Name Attribute ref int") => `(tactic| k_extra "subscriptTail Name Attribute ref int")
local macro_rules | `(tactic| walk_at "subscriptTail Name Constant ref int") => `(tactic| k_extra "subscriptTail Name Constant ref int")
local macro_rules | `(tactic| walk_at "subscriptTail Name Constant str int") => `(tactic| k_extra "subscriptTail Name Constant str int")
local macro_rules | `(tactic| walk_at "subscriptTail Name Name ref int") => `(tactic| k_extra "subscriptTail Name Name ref int")
local macro_rules | `(tactic| walk_at "subscriptTail Name Slice ref ref") => `(tactic| k_extra "subscriptTail Name Slice ref ref")
local macro_rules | `(tactic| walk_at "subscriptTail Name Tuple ref ref") => `(tactic| k_extra "subscriptTail Name Tuple ref ref")
local macro_rules | `(tactic| walk_at "subscriptTail Name UnaryOp ref int") => `(tactic| k_extra "subscriptTail Name UnaryOp ref int")
local macro_rules | `(tactic| k_ne) => `(tactic| (refine PySem.W.neN ?_; (try dsimp only); first
  | with_reducible assumption
  | exact Ne.symm (by with_reducible assumption)
  | exact Nat.ne_of_gt (by with_reducible first | assumption | exact And.left (by assumption) | exact And.right (by assumption) | exact And.left (And.right (by assumption)) | exact And.right (And.right (by assumption)) | exact And.left (And.right (And.right (by assumption))) | exact And.right (And.right (And.right (by assumption))) | exact And.left (And.right (And.right (And.right (by assumption)))))
  | exact Nat.ne_of_lt (by with_reducible first | assumption | exact And.left (by assumption) | exact And.right (by assumption) | exact And.left (And.right (by assumption)) | exact And.right (And.right (by assumption)) | exact And.left (And.right (And.right (by assumption))) | exact And.right (And.right (And.right (by assumption))) | exact And.left (And.right (And.right (And.right (by assumption)))))))
section
open PySem PySem.W PyProof.Rows PySem.Calls PySem.Spec PySem.W.X
namespace Mine

abbrev AA (d u : Nat) : Around := { handled := none, depth := d, frames := none, guards := none, units := u }

theorem weaken {α : Type} {M : Model} {A : Around} {t : Sem α} {Q : α → Shared → Prop} {E : Value → Shared → Prop} {s : Shared} (d u : Nat)
    (hh : A.handled = none) (hd : A.depth ≤ d) (hu : A.units ≤ u) (h : wpAny M (AA d u) t Q E s) : wpAny M A t Q E s := by
  intro Γ p hΓ
  refine h Γ p ⟨by rw [hΓ.1, hh], Nat.le_trans hΓ.2.1 hd, fun l hl => (by cases hl), fun g hg => (by cases hg), Nat.le_trans hΓ.2.2.2.2 hu⟩




abbrev ent (w : World) (nm : String) (t : Tok) (v : Value) : DictEntry := ⟨PyData.keyHash w.params (Str.ofString nm), .str (Str.ofString nm) t, v⟩

inductive ArrAt (w : World) (h : Heap) (a : Addr) (k : Int) (il : Addr) : Prop
  | mk (d : Addr) (t1 t2 t3 t4 t5 t6 t7 t8 t9 t10 : Tok) (bl : Addr) (e1 : h.get? a = some (instObj 208 d)) (e2 : h.get? d = some (dictOf [ent w "word" t1 (.str (Str.ofString "ARRAY") t7), ent w "number" t2 (.int k t8), ent w "mark" t3 (.int 0 t9), ent w "told" t4 (.str (Str.ofString "2") t10), ent w "bounds" t5 (.ref bl), ent w "items" t6 (.ref il)] 6)) : ArrAt w h a k il
inductive NameAt (w : World) (h : Heap) (n : Addr) (a : Addr) : Prop
  | mk (d : Addr) (t1 t2 t3 t4 t5 : Tok) (e1 : h.get? n = some (instObj 117 d)) (e2 : h.get? d = some (dictOf [ent w "kind" t1 (.str (Str.ofString "item") t4), ent w "owner" t2 (.ref a), ent w "key" t3 (.int 0 t5)] 3)) : NameAt w h n a
abbrev tupOf (its : List Value) : Obj := { cls := .type "tuple", data := .seq its.toArray 0 }

inductive PatAt (w : World) (h : Heap) (p : Addr) (n : Addr) : Prop
  | mk (d q q1 q2 : Addr) (t1 t2 t3 t4 : Tok) (e1 : h.get? p = some (instObj 54 d)) (e2 : h.get? d = some (dictOf [ent w "node" t1 (.ref q)] 1)) (e3 : h.get? q = some (tupOf [.str (Str.ofString "cat") t2, .ref q1, .ref q2])) (e4 : h.get? q1 = some (tupOf [.str (Str.ofString "cursor") t3, .ref n])) (e5 : h.get? q2 = some (tupOf [.str (Str.ofString "arb") t4])) : PatAt w h p n
inductive ListRes (s : Shared) (items : List Value) (v : Value) (s' : Shared) : Prop
  | mk (r : Addr) (h' : Heap) (tk n : Nat) (e1 : v = .ref r) (e2 : s' = { s with heap := h', toks := tk }) (e3 : s.heap.StaysIn h') (e4 : s.heap.get? r = none) (e5 : h'.get? r = some (listOf items.toArray n)) : ListRes s items v s'
inductive ValRes (s : Shared) (x v : Value) (s' : Shared) : Prop
  | mk (h' : Heap) (tk : Nat) (e1 : v = x) (e2 : s' = { s with heap := h', toks := tk }) (e3 : s.heap.StaysIn h') : ValRes s x v s'
theorem mem_stays {h₀ h : Heap} {news : List (Addr × Obj)} (D : Mem h₀ h [] news) : h₀.StaysIn h := fun b o e => D.keep b o e (by simp [away])
theorem x_list {s : Shared} {h' : Heap} {news : List (Addr × Obj)} {r : Addr} {items : List Value} {n tk : Nat} (D : Mem s.heap h' [] news) (hm : (r, (⟨.type "list", none, .seq items.toArray n, #[]⟩ : Obj)) ∈ news) :
    ListRes s items (.ref r) ⟨h', s.gens, s.drawn, tk, s.os⟩ :=
  ⟨r, h', tk, n, rfl, rfl, mem_stays D, (D.nw _ hm).2, (D.nw _ hm).1⟩
theorem x_val {s : Shared} {h' : Heap} {news : List (Addr × Obj)} {v : Value} {tk : Nat} (D : Mem s.heap h' [] news) :
    ValRes s v v ⟨h', s.gens, s.drawn, tk, s.os⟩ := ⟨h', tk, rfl, rfl, mem_stays D⟩
def Stop (p : Prop) : Prop := p
theorem stop {p : Prop} (h : Stop p) : p := h

theorem enter_fn {prog : Program} {w : World} {A : Around} {s : Shared} {K : Frag} {p : Program} {loose : List Str} {mean : ExcName → Option Value} {mg mb : Str → Option Value}
    {R : Result → Shared → Prop} {name qual : Str} {params : Arguments} {body : List Stmt} {scope : Scope} {dV kV doc pm cdv ct oc : Value} {an od : Option Addr} {osl : Array (Option Value)} {f : Addr} {args : Args} {binds : List (Str × Value)}
    (X₀ : K.In s.heap) (T : Top p loose mean mg mb s.heap)
    (ho : K.lookup f = some ⟨oc, od, .func (fnOf name qual params body scope dV kV doc pm an cdv ct), osl⟩) (hcd : codeIn K cdv qual = true) (hroom : A.depth < recursionLimit)
    (hbind : BindsTo s (fnOf name qual params body scope dV kV doc pm an cdv ct) args binds) (hloc : ∀ y ∈ binds, scope.names.lookup y.1 = some .local)
    (h : ∀ L' h₁, Fr s.heap L' h₁ (fun y => binds.reverse.lookup y) → News s.heap L' h₁ [] →
      wpAny (model prog w) (A.deeper (envOf qual scope L' f cdv)) (execs body (envOf qual scope L' f cdv))
        (fun fl s' => R (.ok (.ret (match fl with | .ret v => v | _ => .none))) s')
        (fun _ _ => False)
        { s with heap := h₁, toks := s.toks + binds.length })
    (hco : scope.isCoroutine = false) (hgen : scope.isGenerator = false) (hk : scope.kind = .function)
    (hcell : ∀ x ∈ scope.names, x.2 ≠ .cell) : codeAny (model prog w) A (.call (.ref f) args) R s := by
  refine codeAny_call_def (fd := fnOf name qual params body scope dV kV doc pm an cdv ct) (body := body) (binds := binds) hroom (X₀ _ _ ho) rfl T.nolimit (codeRec_of X₀ hcd) rfl hbind hcell hloc (fun h₁ hns hk₁ => ?_) hco hgen hk
  exact wpAny_mono (h s.heap.objs.size h₁ ⟨hns, hk₁, Nat.le_refl _⟩ (fun _ hp => nomatch hp)) (fun _ _ x => x) (fun _ _ x => x.elim)

theorem news_sub {h₀ h : Heap} {L : Addr} {news news' : List (Addr × Obj)} (N : News h₀ L h news) (hs : ∀ p ∈ news', p ∈ news) : News h₀ L h news' := fun p hp => N p (hs p hp)
theorem fr_stays {g h h' : Heap} {L : Addr} {m : Str → Option Value} (F : Fr g L h m) (st : h.StaysIn h') : Fr g L h' m := by
  obtain ⟨oL, es, ep, hL, hr⟩ := F.ns
  exact ⟨⟨oL, es, ep, st _ _ hL, hr⟩, fun b o e => st b o (F.keep b o e), F.above⟩
theorem news_stays {g h h' : Heap} {L : Addr} {news : List (Addr × Obj)} (N : News g L h news) (st : h.StaysIn h') : News g L h' news := fun p hp => ⟨st _ _ (N p hp).1, (N p hp).2⟩
theorem news_new {g h h' : Heap} {L r : Addr} {o : Obj} {m : Str → Option Value} {news : List (Addr × Obj)} (F : Fr g L h m) (N : News g L h news) (st : h.StaysIn h') (hr : h.get? r = none) (ho : h'.get? r = some o) : News g L h' ((r, o) :: news) := by
  intro p hp
  rcases List.mem_cons.mp hp with rfl | hp
  · refine ⟨ho, fun e => ?_, ?_⟩
    · obtain ⟨oL, _, _, hL, _⟩ := F.ns
      have e' : r = L := e
      rw [← e', hr] at hL; cases hL
    · show g.get? r = none
      rcases q : g.get? r with _ | o'
      · rfl
      · rw [F.keep r o' q] at hr; cases hr
  · exact news_stays N st p hp
theorem news_ne {g h : Heap} {L r : Addr} {news : List (Addr × Obj)} (N : News g L h news) (hr : h.get? r = none) : ∀ p ∈ news, p.1 ≠ r := fun p hp e => by
  have := (N p hp).1; rw [e, hr] at this; cases this

theorem use_list {w : World} {A : Around} {s : Shared} {g : Heap} {L : Addr} {m : Str → Option Value} {news : List (Addr × Obj)} {f : Value} {args : List Value} {items : List Value} {Q : Value → Shared → Prop} {E : Value → Shared → Prop} {d u : Nat}
    (F : Fr g L s.heap m) (N : News g L s.heap news) (hh : A.handled = none) (hd : A.depth ≤ d) (hu : A.units ≤ u)
    (h : wpAny (model PySem.Challenge.rw_sj0194_01.row.prog w) (AA d u) (call f args) (ListRes s items) (fun _ _ => False) s)
    (k : ∀ r h' tk n, Fr g L h' m → News g L h' ((r, listOf items.toArray n) :: news) → (∀ p ∈ news, p.1 ≠ r) → Q (.ref r) { s with heap := h', toks := tk }) :
    wpAny (model PySem.Challenge.rw_sj0194_01.row.prog w) A (call f args) Q E s := by
  refine weaken d u hh hd hu (wpAny_mono h (fun v s' hr => ?_) fun _ _ x => x.elim)
  obtain ⟨r, h', tk, n, rfl, rfl, st, hr0, hr1⟩ := hr
  exact k r h' tk n (fr_stays F st) (news_new F N st hr0 hr1) (news_ne N hr0)
theorem use_val {w : World} {A : Around} {s : Shared} {g : Heap} {L : Addr} {m : Str → Option Value} {news : List (Addr × Obj)} {f : Value} {args : List Value} {x : Value} {Q : Value → Shared → Prop} {E : Value → Shared → Prop} {d u : Nat}
    (F : Fr g L s.heap m) (N : News g L s.heap news) (hh : A.handled = none) (hd : A.depth ≤ d) (hu : A.units ≤ u)
    (h : wpAny (model PySem.Challenge.rw_sj0194_01.row.prog w) (AA d u) (call f args) (ValRes s x) (fun _ _ => False) s)
    (k : ∀ h' tk, Fr g L h' m → News g L h' news → Q x { s with heap := h', toks := tk }) :
    wpAny (model PySem.Challenge.rw_sj0194_01.row.prog w) A (call f args) Q E s := by
  refine weaken d u hh hd hu (wpAny_mono h (fun v s' hr => ?_) fun _ _ x => x.elim)
  obtain ⟨h', tk, rfl, rfl, st⟩ := hr
  exact k h' tk (fr_stays F st) (news_stays N st)

theorem inst_frozen {g h : Heap} {L x C dx : Addr} {m : Str → Option Value} {od : Obj} {sl : Array (Option Value)} (F : Fr g L h m) (h1 : g.get? x = some (⟨.ref C, some dx, .plain, sl⟩ : Obj)) (h2 : g.get? dx = some od) :
    InstAt h x ⟨.ref C, some dx, .plain, sl⟩ C (some od) := ⟨F.keep _ _ h1, rfl, rfl, F.keep _ _ h2⟩

inductive SlotV (w : World) (h : Heap) : Value → List Addr → Nat → Prop
  | str {u : Str} {t : Tok} : SlotV w h (.str u t) [] 1
  | int {i : Int} {t : Tok} : SlotV w h (.int i t) [] 1
  | arr {a il : Addr} {k : Int} : ArrAt w h a k il → SlotV w h (.ref a) [a] 1
  | name {n a il : Addr} {k : Int} : NameAt w h n a → ArrAt w h a k il → SlotV w h (.ref n) [a] 2
  | pat {p n a il : Addr} {k : Int} : PatAt w h p n → NameAt w h n a → ArrAt w h a k il → SlotV w h (.ref p) [a] 3
theorem SlotV.pos {w : World} {h : Heap} {v : Value} {as : List Addr} {n : Nat} (x : SlotV w h v as n) : 1 ≤ n := by
  cases x <;> omega
inductive Slots (w : World) (h : Heap) : List Value → List Addr → Nat → Prop
  | nil : Slots w h [] [] 0
  | cons {v : Value} {vs : List Value} {as bs : List Addr} {n k : Nat} : SlotV w h v as n → Slots w h vs bs k → Slots w h (v :: vs) (as ++ bs) (n + k)
theorem SlotV.one {w : World} {h : Heap} {v : Value} {as : List Addr} {n : Nat} (x : SlotV w h v as n) : as.length ≤ 1 := by
  cases x <;> simp
theorem Slots.targets {w : World} {h : Heap} {vs : List Value} {as : List Addr} {n : Nat} (x : Slots w h vs as n) : as.length ≤ vs.length := by
  induction x with
  | nil => exact Nat.le_refl _
  | cons a _ ih =>
    have := a.one
    simp only [List.length_cons, List.length_append]
    omega
theorem Slots.app {w : World} {h : Heap} {vs us : List Value} {as bs : List Addr} {n k : Nat} (x : Slots w h vs as n) (y : Slots w h us bs k) : Slots w h (vs ++ us) (as ++ bs) (n + k) := by
  induction x with
  | nil => simpa using y
  | cons a _ ih => rw [List.append_assoc, Nat.add_assoc]; exact .cons a ih
theorem Slots.one {w : World} {h : Heap} {v : Value} {as : List Addr} {n : Nat} (x : SlotV w h v as n) : Slots w h [v] as n := by
  have := Slots.cons x (.nil (w := w) (h := h)); simpa using this
theorem SlotV.keeps {w : World} {h h' : Heap} {v : Value} {as : List Addr} {n : Nat} (st : h.StaysIn h') (x : SlotV w h v as n) : SlotV w h' v as n := by
  have ka : ∀ {a il : Addr} {k : Int}, ArrAt w h a k il → ArrAt w h' a k il := fun ⟨d, t1, t2, t3, t4, t5, t6, t7, t8, t9, t10, bl, h1, h2⟩ => ⟨d, t1, t2, t3, t4, t5, t6, t7, t8, t9, t10, bl, st _ _ h1, st _ _ h2⟩
  have kn : ∀ {n a : Addr}, NameAt w h n a → NameAt w h' n a := fun ⟨d, t1, t2, t3, t4, t5, h1, h2⟩ => ⟨d, t1, t2, t3, t4, t5, st _ _ h1, st _ _ h2⟩
  cases x with
  | str => exact .str
  | int => exact .int
  | arr a => exact .arr (ka a)
  | name a b => exact .name (kn a) (ka b)
  | pat a b c =>
    obtain ⟨d, q, q1, q2, t1, t2, t3, t4, h1, h2, h3, h4, h5⟩ := a
    exact .pat ⟨d, q, q1, q2, t1, t2, t3, t4, st _ _ h1, st _ _ h2, st _ _ h3, st _ _ h4, st _ _ h5⟩ (kn b) (ka c)
theorem Slots.keeps {w : World} {h h' : Heap} {vs : List Value} {as : List Addr} {n : Nat} (st : h.StaysIn h') (x : Slots w h vs as n) : Slots w h' vs as n := by
  induction x with
  | nil => exact .nil
  | cons a _ ih => exact .cons (a.keeps st) ih

theorem NameAt.keeps {w : World} {h h' : Heap} {n a : Addr} (st : h.StaysIn h') (x : NameAt w h n a) : NameAt w h' n a := by
  obtain ⟨d, t1, t2, t3, t4, t5, h1, h2⟩ := x
  exact ⟨d, t1, t2, t3, t4, t5, st _ _ h1, st _ _ h2⟩
theorem ArrAt.keeps {w : World} {h h' : Heap} {a il : Addr} {k : Int} (st : h.StaysIn h') (x : ArrAt w h a k il) : ArrAt w h' a k il := by
  obtain ⟨d, t1, t2, t3, t4, t5, t6, t7, t8, t9, t10, bl, h1, h2⟩ := x
  exact ⟨d, t1, t2, t3, t4, t5, t6, t7, t8, t9, t10, bl, st _ _ h1, st _ _ h2⟩
theorem PatAt.keeps {w : World} {h h' : Heap} {p n : Addr} (st : h.StaysIn h') (x : PatAt w h p n) : PatAt w h' p n := by
  obtain ⟨d, q, q1, q2, t1, t2, t3, t4, h1, h2, h3, h4, h5⟩ := x
  exact ⟨d, q, q1, q2, t1, t2, t3, t4, st _ _ h1, st _ _ h2, st _ _ h3, st _ _ h4, st _ _ h5⟩
theorem list_end {s : Shared} {L r : Addr} {h' : Heap} {m : Str → Option Value} {news : List (Addr × Obj)} {items : List Value} {n tk : Nat} (F : Fr s.heap L h' m) (N : News s.heap L h' news) (hm : (r, listOf items.toArray n) ∈ news) :
    ListRes s items (.ref r) ⟨h', s.gens, s.drawn, tk, s.os⟩ := ⟨r, h', tk, n, rfl, rfl, F.keep, (N _ hm).2.2, (N _ hm).1⟩
theorem pop0 {prog : Program} {w : World} {A : Around} {E : Value → Shared → Prop} {s : Shared} {h₀ : Heap} {L D : Addr} {m : Str → Option Value} {news news' : List (Addr × Obj)} {n : Nat} {u : Tok} {v : Value} {vs : List Value} {Q : Value → Shared → Prop}
    (F : Fr h₀ L s.heap m) (N : News h₀ L s.heap news) (U : Upd D (listOf (v :: vs).toArray n) (listOf vs.toArray (n + 1)) news news') (hz : vs.length + 1 ≤ sizeLine)
    (h : ∀ h', Fr h₀ L h' m → News h₀ L h' news' → Q v { s with heap := h' }) : wpAny (model prog w) A (call (.builtin "list.pop") [.ref D, .int 0 u]) Q E s :=
  kl_popAt (k := 0) (p := []) (q := vs) F N rfl (by simp [seqIndex?]) rfl U (by simpa using hz) h

theorem fr_ne {g h : Heap} {L b : Addr} {o : Obj} {m : Str → Option Value} (F : Fr g L h m) (hb : g.get? b = some o) : b ≠ L :=
  Nat.ne_of_lt (Nat.lt_of_lt_of_le (Heap.lt_size hb) F.above)
theorem thawF {g h : Heap} {L b : Addr} {m : Str → Option Value} (F : Fr g L h m) : Fr (g.hide b) L h m :=
  ⟨F.ns, fun x o e => F.keep x o (Heap.of_hide e), by rw [Heap.hide_size]; exact F.above⟩
theorem thawN {g h : Heap} {L b : Addr} {o : Obj} {m : Str → Option Value} {news : List (Addr × Obj)} (F : Fr g L h m) (N : News g L h news) (hb : g.get? b = some o) : News (g.hide b) L h ((b, o) :: news) := by
  intro p hp
  rcases List.mem_cons.mp hp with rfl | hp
  · exact ⟨F.keep _ _ hb, fr_ne F hb, Heap.hide_self _ _⟩
  · refine ⟨(N p hp).1, (N p hp).2.1, ?_⟩
    cases q : (g.hide b).get? p.1 with
    | none => rfl
    | some o' => have := Heap.of_hide q; rw [(N p hp).2.2] at this; cases this
theorem frzF {g h : Heap} {L b : Addr} {o : Obj} {m : Str → Option Value} {news : List (Addr × Obj)} (F : Fr (g.hide b) L h m) (N : News (g.hide b) L h ((b, o) :: news)) (hb : g.get? b = some o) : Fr g L h m := by
  refine ⟨F.ns, fun x o' e => ?_, by have := F.above; rwa [Heap.hide_size] at this⟩
  by_cases hx : x = b
  · subst hx; rw [hb] at e; cases e; exact (N _ (.head _)).1
  · exact F.keep x o' ((Heap.hide_ne _ hx).trans e)
theorem frzN {g h : Heap} {L b : Addr} {o : Obj} {news : List (Addr × Obj)} (N : News (g.hide b) L h ((b, o) :: news)) (hn : ∀ p ∈ news, p.1 ≠ b) : News g L h news := by
  intro p hp
  refine ⟨(N p (.tail _ hp)).1, (N p (.tail _ hp)).2.1, ?_⟩
  rw [← (N p (.tail _ hp)).2.2]
  exact (Heap.hide_ne _ (hn p hp)).symm
theorem news_off {g h : Heap} {L b : Addr} {o : Obj} {news : List (Addr × Obj)} (N : News g L h news) (hb : g.get? b = some o) : ∀ p ∈ news, p.1 ≠ b := fun p hp e => by
  have := (N p hp).2.2; rw [e, hb] at this; cases this
theorem upd_keys {d : Addr} {o o' : Obj} : ∀ {l l' : List (Addr × Obj)}, Upd d o o' l l' → l'.map (·.1) = l.map (·.1)
  | _, _, .head _ => rfl
  | _, _, .tail _ r => congrArg (_ :: ·) (upd_keys r)
theorem extendT {prog : Program} {w : World} {A : Around} {E : Value → Shared → Prop} {s : Shared} {g : Heap} {L D b : Addr} {m : Str → Option Value} {news news' : List (Addr × Obj)} {n n2 : Nat} {l l2 : List Value} {Q : Value → Shared → Prop}
    (F : Fr g L s.heap m) (N : News g L s.heap news) (hb : g.get? b = some ({ cls := .type "tuple", data := .seq l2.toArray n2 } : Obj)) (hne : l2.length ≠ 0)
    (U : Upd D (listOf l.toArray n) (listOf (l ++ l2).toArray (n + 1)) news news') (hz : l.length + l2.length ≤ 1000)
    (h : ∀ h', Fr g L h' m → News g L h' news' → Q .none { s with heap := h' }) : wpAny (model prog w) A (call (.builtin "list.extend") [.ref D, .ref b]) Q E s := by
  have hkeys := upd_keys U
  have off : ∀ p ∈ news', p.1 ≠ b := fun p hp e => by
    have h1 : p.1 ∈ news'.map (·.1) := List.mem_map_of_mem hp
    rw [hkeys] at h1
    obtain ⟨q, hq, e'⟩ := List.mem_map.mp h1
    exact news_off N hb q hq (e'.trans e)
  have hD : b ≠ D := by
    obtain ⟨pre, post, e1, _, _, _⟩ := U.split
    have := news_off N hb (D, listOf l.toArray n) (by rw [e1]; simp)
    exact fun e => this e.symm
  refine kup_extend (its := l.toArray) (its2 := l2.toArray) (l := l ++ l2) (thawF (b := b) F) (thawN F N hb) (.head _) (by simp) (by simpa using hne) (.tail hD U) ?_ ?_ ?_ fun h' F' N' => h h' (frzF F' N' hb) (frzN N' off)
  · have : Builtin.List.listTooLong (l.toArray.size + l2.toArray.size) = false := by
      unfold Builtin.List.listTooLong
      have := PySem.sizeLine_eq
      simp
      omega
    rw [this]; simp
  · rw [PySem.sizeLine_eq]; simp; omega
  · rw [PySem.sizeLine_eq]; simp; omega

theorem append1 {prog : Program} {w : World} {A : Around} {E : Value → Shared → Prop} {s : Shared} {h₀ : Heap} {L D : Addr} {m : Str → Option Value} {news news' : List (Addr × Obj)} {n : Nat} {v : Value} {vs : List Value} {Q : Value → Shared → Prop}
    (F : Fr h₀ L s.heap m) (N : News h₀ L s.heap news) (U : Upd D (listOf vs.toArray n) (listOf (vs ++ [v]).toArray (n + 1)) news news') (hz : vs.length ≤ 1000)
    (h : ∀ h', Fr h₀ L h' m → News h₀ L h' news' → Q .none { s with heap := h' }) : wpAny (model prog w) A (call (.builtin "list.append") [.ref D, v]) Q E s :=
  append_K (its := vs.toArray) F N (by simpa using U) h (by rw [PySem.sizeLine_eq]; simp; omega)
theorem len1 {prog : Program} {w : World} {A : Around} {E : Value → Shared → Prop} {s : Shared} {h₀ : Heap} {L D : Addr} {news : List (Addr × Obj)} {n : Nat} {vs : List Value} {Q : Value → Shared → Prop}
    (N : News h₀ L s.heap news) (hm : (D, listOf vs.toArray n) ∈ news) (hf : vs.length ≤ 1000) (h : Q (.int (vs.length : Nat) (s.toks + 1)) { s with toks := s.toks + 1 + 1 }) :
    wpAny (model prog w) A (call (.builtin "len") [.ref D]) Q E s := KM.len_K N hm List.size_toArray (by omega) h
theorem extendL {prog : Program} {w : World} {A : Around} {E : Value → Shared → Prop} {s : Shared} {g : Heap} {L D b : Addr} {m : Str → Option Value} {news news' : List (Addr × Obj)} {n n2 : Nat} {l : List Value} {x : Value} {Q : Value → Shared → Prop}
    (F : Fr g L s.heap m) (N : News g L s.heap news) (hb : (b, listOf [x].toArray n2) ∈ news)
    (U : Upd D (listOf l.toArray n) (listOf (l ++ [x]).toArray (n + 1)) news news') (hz : l.length ≤ 1000)
    (h : ∀ h', Fr g L h' m → News g L h' news' → Q .none { s with heap := h' }) : wpAny (model prog w) A (call (.builtin "list.extend") [.ref D, .ref b]) Q E s := by
  refine kl_extend (its := l.toArray) (its2 := [x].toArray) (l := l ++ [x]) F N hb (by simp) (by simp) U ?_ ?_ ?_ h
  · have : Builtin.List.listTooLong (l.toArray.size + [x].toArray.size) = false := by
      unfold Builtin.List.listTooLong
      have := PySem.sizeLine_eq
      simp
      omega
    rw [this]; simp
  · rw [PySem.sizeLine_eq]; simp; omega
  · rw [PySem.sizeLine_eq]; simp; omega
theorem Slots.len {w : World} {h : Heap} {vs : List Value} {as : List Addr} {n : Nat} (x : Slots w h vs as n) : vs.length ≤ n := by
  induction x with
  | nil => exact Nat.le_refl _
  | cons a _ ih =>
    simp only [List.length_cons]
    have := a.pos
    omega
theorem extend0 {prog : Program} {w : World} {A : Around} {E : Value → Shared → Prop} {s : Shared} {g : Heap} {L D b : Addr} {m : Str → Option Value} {news : List (Addr × Obj)} {n n2 : Nat} {l : List Value} {Q : Value → Shared → Prop}
    (F : Fr g L s.heap m) (N : News g L s.heap news) (hb : (b, listOf ([] : List Value).toArray n2) ∈ news)
    (U : Upd D (listOf l.toArray n) (listOf l.toArray n) news news) (hz : l.length ≤ 1000)
    (h : ∀ h', Fr g L h' m → News g L h' news → Q .none { s with heap := h' }) : wpAny (model prog w) A (call (.builtin "list.extend") [.ref D, .ref b]) Q E s := by
  refine kxn_extend (its := l.toArray) (its2 := ([] : List Value).toArray) F N hb rfl U ?_ ?_ ?_ h
  · have : Builtin.List.listTooLong (l.toArray.size + ([] : List Value).toArray.size) = false := by
      unfold Builtin.List.listTooLong
      have := PySem.sizeLine_eq
      simp
      omega
    rw [this]; simp
  · rw [PySem.sizeLine_eq]; simp; omega
  · rw [PySem.sizeLine_eq]; simp; omega
theorem upd_same {d : Addr} {o : Obj} : ∀ {l : List (Addr × Obj)}, (d, o) ∈ l → (l.map (·.1)).Nodup → Upd d o o l l
  | p :: r, h, hn => by
    rw [List.map_cons, List.nodup_cons] at hn
    rcases List.mem_cons.mp h with rfl | h
    · refine .head fun q hq e => hn.1 ?_
      have h1 := List.mem_map_of_mem (f := (·.1)) hq
      rw [e] at h1; exact h1
    · refine .tail (fun e => hn.1 ?_) (upd_same h hn.2)
      have h1 := List.mem_map_of_mem (f := (·.1)) h
      rw [e]; exact h1
end Mine
end
section
open PySem PySem.W PyProof.Rows PySem.Calls PySem.Spec
namespace Mine
theorem lenC {prog : Program} {w : World} {A : Around} {E : Value → Shared → Prop} {s : Shared} {h₀ : Heap} {L D : Addr} {news : List (Addr × Obj)} {n : Nat} {v : Value} {vs : List Value} {Q : Value → Shared → Prop}
    (N : News h₀ L s.heap news) (hm : (D, listOf (v :: vs).toArray n) ∈ news) (hf : vs.length ≤ 900) (h : Q (.int ((vs.length : Int) + 1) (s.toks + 1)) { s with toks := s.toks + 1 + 1 }) :
    wpAny (model prog w) A (call (.builtin "len") [.ref D]) Q E s := len1 N hm (by simp only [List.length_cons]; omega) (by simpa using h)
theorem item1 {prog : Program} {w : World} {A : Around} {E : Value → Shared → Prop} {s : Shared} {h₀ : Heap} {L l : Addr} {news : List (Addr × Obj)} {n : Nat} {vs : List Value} {k : Int} {u : Tok} {v : Value} {value slice : PySem.Expr} {Q : Value → Shared → Prop}
    (N : News h₀ L s.heap news) (hm : (l, listOf vs.toArray n) ∈ news) (h0 : 0 ≤ k) (hk : k < 1000) (hx : vs[k.toNat]? = some v) (h : Q v s)
    (hs : subscripted slice false (.ref l) (.int k u) = operate [.ref l, .int k u] (getItem (.ref l) (.int k u)) := by with_unfolding_all rfl) :
    wpAny (model prog w) A (subscriptTail value slice (.ref l) (.int k u)) Q E s :=
  tail_any (N.isList hm).typeIs slot_list_getitem.lookup (wpAny_getItem_list (N.isList hm) h0 (by omega) (by simpa using hx) h) hs
theorem addL {prog : Program} {w : World} {A : Around} {E : Value → Shared → Prop} {s : Shared} {h₀ : Heap} {L a b : Addr} {m : Str → Option Value} {news : List (Addr × Obj)} {n1 n2 : Nat} {us : List Value} {x : Value} {Q : Value → Shared → Prop}
    (F : Fr h₀ L s.heap m) (N : News h₀ L s.heap news) (ha : (a, listOf us.toArray n1) ∈ news) (hb : (b, listOf [x].toArray n2) ∈ news) (hz : us.length ≤ 1000)
    (h : ∀ D h', Fr h₀ L h' m → News h₀ L h' ((D, listOf (us ++ [x]).toArray 0) :: news) → (∀ p ∈ news, p.1 < D) → Q (.ref D) { s with heap := h' }) :
    wpAny (model prog w) A (binaryOp .Add (.ref a) (.ref b)) Q E s :=
  kmk_add_lit F N (N.isList ha) (N.isList hb) (by simp) h (by rw [PySem.sizeLine_eq]; simp; omega)
end Mine
end
section
open PySem PySem.W PyProof.Rows PySem.Calls PySem.Spec
namespace Mine
section
local macro_rules | `(tactic| k_all) => `(tactic| assumption)
local macro_rules | `(tactic| k_inst) => `(tactic| (refine' Mine.inst_frozen ?F ?h1 ?h2; (case F => k_asm); (case h1 => assumption); (case h2 => assumption)))
variable {w : World} {s : Shared} {mean : ExcName → Option Value} {mg mb : Str → Option Value}
theorem things_str {u : Str} {t : Tok}
    (X : (Mine.hd.heap_1 w.params).In s.heap) (T : Top Mine.view (looseW Mine.view [Str.ofString "SnobolError"]) mean mg mb s.heap) :
    wpAny (model PySem.Challenge.rw_sj0194_01.row.prog w) (AA 600 600) (call (.ref 357) [.str u t]) (ListRes s []) (fun _ _ => False) s := by
  revert T X; k_fill; intro X T
  k_with_none
  w_top off
  refine wpAny_call ?_
  refine' enter_fn ?k4 ?k5 ?k6 ?k7 ?k8 ?k9 ?kB ?_ ?c2 ?c3 ?c4 ?c5
  case k4 => exact X
  case k5 => exact T
  case k6 => k_is
  case k7 => k_is
  case k8 => decide
  case k9 => exact BindsTo.of_eq rfl
  case c5 => decide
  case kB => exact locs rfl
  case c2 => exact rfl
  case c3 => exact rfl
  case c4 => exact rfl
  k_whole
  intro L' h' F' N'
  (try dsimp only)
  (try k_fold)
  k_steps
  exact list_end (by k_asm) (by k_asm) (by k_mem)
theorem things_int {u : Int} {t : Tok}
    (X : (Mine.hd.heap_1 w.params).In s.heap) (T : Top Mine.view (looseW Mine.view [Str.ofString "SnobolError"]) mean mg mb s.heap) :
    wpAny (model PySem.Challenge.rw_sj0194_01.row.prog w) (AA 600 600) (call (.ref 357) [.int u t]) (ListRes s []) (fun _ _ => False) s := by
  revert T X; k_fill; intro X T
  k_with_none
  w_top off
  refine wpAny_call ?_
  refine' enter_fn ?k4 ?k5 ?k6 ?k7 ?k8 ?k9 ?kB ?_ ?c2 ?c3 ?c4 ?c5
  case k4 => exact X
  case k5 => exact T
  case k6 => k_is
  case k7 => k_is
  case k8 => decide
  case k9 => exact BindsTo.of_eq rfl
  case c5 => decide
  case kB => exact locs rfl
  case c2 => exact rfl
  case c3 => exact rfl
  case c4 => exact rfl
  k_whole
  intro L' h' F' N'
  (try dsimp only)
  (try k_fold)
  k_steps
  exact list_end (by k_asm) (by k_asm) (by k_mem)
theorem things_name {n a : Addr}
    (X : (Mine.hd.heap_1 w.params).In s.heap) (T : Top Mine.view (looseW Mine.view [Str.ofString "SnobolError"]) mean mg mb s.heap) (h : NameAt w s.heap n a) :
    wpAny (model PySem.Challenge.rw_sj0194_01.row.prog w) (AA 600 600) (call (.ref 357) [.ref n]) (ListRes s [.ref a]) (fun _ _ => False) s := by
  obtain ⟨d, t1, t2, t3, t4, t5, h1, h2⟩ := h
  revert T X; k_fill; intro X T
  k_with_none
  w_top off
  refine wpAny_call ?_
  refine' enter_fn ?k4 ?k5 ?k6 ?k7 ?k8 ?k9 ?kB ?_ ?c2 ?c3 ?c4 ?c5
  case k4 => exact X
  case k5 => exact T
  case k6 => k_is
  case k7 => k_is
  case k8 => decide
  case k9 => exact BindsTo.of_eq rfl
  case c5 => decide
  case kB => exact locs rfl
  case c2 => exact rfl
  case c3 => exact rfl
  case c4 => exact rfl
  k_whole
  intro L' h' F' N'
  (try dsimp only)
  (try k_fold)
  k_steps
  exact list_end (by k_asm) (by k_asm) (by k_mem)
theorem things_arr {a il : Addr} {k : Int}
    (X : (Mine.hd.heap_1 w.params).In s.heap) (T : Top Mine.view (looseW Mine.view [Str.ofString "SnobolError"]) mean mg mb s.heap) (h : ArrAt w s.heap a k il) :
    wpAny (model PySem.Challenge.rw_sj0194_01.row.prog w) (AA 600 600) (call (.ref 357) [.ref a]) (ValRes s (.ref il)) (fun _ _ => False) s := by
  obtain ⟨d, t1, t2, t3, t4, t5, t6, t7, t8, t9, t10, bl, h1, h2⟩ := h
  revert T X; k_fill; intro X T
  k_with_none
  w_top off
  refine wpAny_call ?_
  refine' enter_fn ?k4 ?k5 ?k6 ?k7 ?k8 ?k9 ?kB ?_ ?c2 ?c3 ?c4 ?c5
  case k4 => exact X
  case k5 => exact T
  case k6 => k_is
  case k7 => k_is
  case k8 => decide
  case k9 => exact BindsTo.of_eq rfl
  case c5 => decide
  case kB => exact locs rfl
  case c2 => exact rfl
  case c3 => exact rfl
  case c4 => exact rfl
  k_whole
  intro L' h' F' N'
  (try dsimp only)
  (try k_fold)
  k_steps
  exact ⟨_, _, rfl, rfl, Fr.keep (by k_asm)⟩
end
end Mine
end
section
open PySem PySem.W PyProof.Rows PySem.Calls PySem.Spec
namespace Mine
inductive TurnEnd (h₀ : Heap) (L : Addr) (s : Shared) (J : (Str → Option Value) → List (Addr × Obj) → Prop) (own : List (Addr × Obj)) (s₂ : Shared) : Prop
  | intro (h' tk m' nx news') (e1 : s₂ = { s with heap := h', toks := tk }) (e2 : Fr h₀ L h' m') (e3 : News h₀ L h' news') (e4 : (∀ p ∈ nx, p ∈ news')) (e5 : (∀ p ∈ own, p ∈ news')) (e6 : J m' nx) : TurnEnd h₀ L s J own s₂
def TurnPost (h₀ : Heap) (L : Addr) (s : Shared) (J : (Str → Option Value) → List (Addr × Obj) → Prop) (own : List (Addr × Obj)) (Q : Flow → Shared → Prop) (f : Flow) (s₂ : Shared) : Prop :=
  match f with
  | .ret v => Q (.ret v) s₂
  | .brk => Q .next s₂
  | _ => TurnEnd h₀ L s J own s₂
theorem iter_list {prog : Program} {w : World} {A : Around} {E : Value → Shared → Prop} {s : Shared} {env : Env} {h₀ : Heap} {x : Str} {body : List Stmt} {Q : Flow → Shared → Prop} {l : Addr} {vs : List Value} {nn : Nat} {m₀ : Str → Option Value} {news : List (Addr × Obj)}
    (J : Nat → (Str → Option Value) → List (Addr × Obj) → Prop)
    (hh : A.handled = none) (hl : s.heap.get? l = some (listOf vs.toArray nn)) (hlL : l ≠ env.locals) (F : Fr h₀ env.locals s.heap m₀) (N : News h₀ env.locals s.heap news) (hj : J 0 m₀ news)
    (hcls : ∀ i m nx, J i m nx → ∀ p ∈ nx, p.2.cls ≠ .type "list_iterator")
    (turn : ∀ i v m₁ news₁ h tk own, vs[i]? = some v → J i m₁ news₁ → (∀ p ∈ own, ∀ q ∈ news₁, q.1 ≠ l → q.1 ≠ p.1) → Fr h₀ env.locals h (fun y => if y = x then some v else m₁ y) → News h₀ env.locals h (news₁ ++ own) →
      wpAny (model prog w) A (execs body env) (TurnPost h₀ env.locals s (J (i + 1)) own Q) E { s with heap := h, toks := tk })
    (done : ∀ m₁ news₁ h tk, J vs.length m₁ news₁ → Fr h₀ env.locals h m₁ → News h₀ env.locals h news₁ → Q .next { s with heap := h, toks := tk }) :
    wpAny (model prog w) A (pyIter (.ref l)) (fun it s₂ => LoopAtV prog w A h₀ env x body Q E it s₂) E s := by
  have hls : s.heap.IsList l vs.toArray := ⟨_, hl, rfl, nn, rfl⟩
  have hne : l ≠ s.heap.objs.size := Nat.ne_of_lt (Heap.lt_size hl)
  refine wpAny_pyIter_list hls ?_
  have W := Walks.list (prog := prog) (w := w) hh s.heap.objs.size l hne vs.toArray
  rw [List.size_toArray] at W
  refine ⟨_, _, _, vs.length, _, _, m₀, news, J, rfl, W, ?_, ?_, ?_, ⟨⟨_, Heap.get?_push_size _ rfl, rfl, rfl⟩, hls.at fun o e => Heap.get?_push_of_some _ e⟩, F.push _, (fun p hp => ⟨Heap.get?_push_of_some _ (N p hp).1, (N p hp).2⟩), hj, ?_, ?_⟩
  · intro hm
    rcases List.mem_cons.mp hm with e | hm
    · exact absurd F.ns.lt (e ▸ Nat.lt_irrefl _)
    · exact hlL (List.mem_singleton.mp hm).symm
  · intro b hb
    rw [List.mem_singleton.mp hb]
    exact next_is_new F
  · intro p hp hI
    exact absurd (Heap.lt_size (N p hp).1) ((List.mem_singleton.mp hI) ▸ Nat.lt_irrefl _)
  · rintro i v m₁ news₁ s₁ own ⟨hh', tk', rfl⟩ hin hP hJ hoff hown hget hfp hst F₁ N₁
    have hsep : ∀ p ∈ own, ∀ q ∈ news₁, q.1 ≠ l → q.1 ≠ p.1 := by
      intro p hp q hq hql e
      rcases List.mem_cons.mp (hown p hp) with h1 | h1
      · exact hoff q hq (by rw [e, h1]; exact List.mem_singleton.mpr rfl)
      · exact hql (e.trans (List.mem_singleton.mp h1))
    have N₂ : News h₀ env.locals hh' (news₁ ++ own) := fun p hp => N₁ p ((List.mem_append.mp hp).elim (fun h => List.mem_append.mpr (.inr h)) fun h => List.mem_append.mpr (.inl h))
    obtain ⟨⟨io, hio, hic, _⟩, _⟩ := hst
    have hiown : (s.heap.objs.size, io) ∈ own := hfp _ (.head _) (next_is_new F) io hio
    refine wpAny_mono (turn i v m₁ news₁ hh' tk' own (by simpa using hP) hJ hsep F₁ N₂) (fun f s₂ p => ?_) fun _ _ e => e
    have fin : TurnEnd h₀ env.locals s (J (i + 1)) own s₂ → LoopStepU h₀ env.locals [s.heap.objs.size] own (J (i + 1)) { s with heap := hh', toks := tk' } .next s₂ := by
      rintro ⟨h', tk, m', nx, news', e, F', N', hn, ho, hm⟩
      refine ⟨rfl, h', tk, m', nx, e, F', fun p hp => N' p ((List.mem_append.mp hp).elim (ho p) (hn p)), fun p hp hq => ?_, hm⟩
      have e1 := (N' p (hn p hp)).1
      rw [List.mem_singleton.mp hq] at e1
      have e2 := (N' _ (ho _ hiown)).1
      rw [e1] at e2
      exact hcls _ _ _ hm p hp (by rw [Option.some.inj e2]; exact hic)
    cases f with
    | ret v => exact .ret p
    | brk => exact .brk p
    | next => exact .next (fin p)
    | cont => exact .cont (fin p)
  · intro h' tk m' news' F' N' _ hJ
    exact done m' news' h' tk hJ F' N'
end Mine
end
section
open PySem PySem.W PyProof.Rows PySem.Calls PySem.Spec
namespace Mine
theorem enter_fnC {prog : Program} {w : World} {A : Around} {s : Shared} {K : Frag} {p : Program} {loose : List Str} {mean : ExcName → Option Value} {mg mb : Str → Option Value}
    {R : Result → Shared → Prop} {name qual : Str} {params : Arguments} {body : List Stmt} {scope : Scope} {dV kV doc pm cdv ct oc : Value} {an od : Option Addr} {osl : Array (Option Value)} {f : Addr} {args : Args} {binds : List (Str × Value)}
    (X₀ : K.In s.heap) (T : Top p loose mean mg mb s.heap)
    (ho : K.lookup f = some ⟨oc, od, .func (fnOf name qual params body scope dV kV doc pm an cdv ct), osl⟩) (hcd : codeIn K cdv qual = true) (hroom : A.depth < recursionLimit)
    (hbind : BindsTo s (fnOf name qual params body scope dV kV doc pm an cdv ct) args binds)
    (hkind : (binds.all fun y => scope.names.lookup y.1 == some .local || scope.names.lookup y.1 == some .cell) = true)
    (hnd : ((cellsFrom 0 scope.names []).map (·.1)).Nodup)
    (h : ∀ L' h₁ tk cells, Fr s.heap L' h₁ (bindL (envOfC qual scope L' f cdv).kindOf binds fun _ => none) → News s.heap L' h₁ cells →
      CellsAre (bindC (envOfC qual scope L' f cdv).kindOf binds fun _ => none) (cellsFrom (L' + 1) scope.names []) cells →
      wpAny (model prog w) (A.deeper (envOfC qual scope L' f cdv)) (execs body (envOfC qual scope L' f cdv))
        (fun fl s' => R (.ok (.ret (match fl with | .ret v => v | _ => .none))) s')
        (fun _ _ => False)
        { s with heap := h₁, toks := tk })
    (hco : scope.isCoroutine = false) (hgen : scope.isGenerator = false) (hk : scope.kind = .function) : codeAny (model prog w) A (.call (.ref f) args) R s := by
  refine codeAny_call_function hroom (X₀ _ _ ho) rfl hco hgen rfl (codeRec_of X₀ hcd) (hbind _ _ _ _ ?_)
  refine wpAny_newFunctionEnv_cells hk (kindsX hkind _) fun env' he s' x => ?_
  subst he
  refine ⟨T.nolimit.keeps x.toInCall.keep, codeAny_func ?_⟩
  obtain ⟨h₁, tk, rfl, _⟩ := x.done
  obtain ⟨cells, NC, Y⟩ := Cl.news (h₀ := s.heap) (Nat.le_refl _) fun n c hm => ⟨x.cell n c (lookup_of_mem_nodup (cellsFrom_names scope.names 0 (s.heap.objs.size + 1) [] [] rfl ▸ hnd) hm), x.above n c hm⟩
  exact wpAny_mono (h s.heap.objs.size h₁ tk cells ⟨x.toInCall.ns, x.toInCall.keep, Nat.le_refl _⟩ NC Y) (fun _ _ y => y) (fun _ _ y => y.elim)
end Mine
end
section
open PySem PySem.W PyProof.Rows PySem.Calls PySem.Spec
namespace Mine
abbrev ZipB (h : Heap) (z TI TO T : Addr) (b : Bool) : Prop :=
  h.get? z = some { cls := .type "zip", dict := none, data := .fields #[rawInt T, .bool b, .bool false, .ref TI, .ref TO], slots := #[] }
section
variable {prog : Program} {w : World} {A : Around} {E : Value → Shared → Prop} {s : Shared}
theorem zip_held {z TI TO T : Addr} {oT : Obj} {b : Bool} {Q : Bool → Shared → Prop} (hz : ZipB s.heap z TI TO T b) (hT : s.heap.get? T = some oT)
    (hQ : ∀ h', ZipB h' z TI TO T true → Heap.ExtBut z s.heap h' → h'.objs.size = s.heap.objs.size → Q false { s with heap := h' }) :
    wpAny (model prog w) A (Builtin.SmallTypes.ownedTupleIsFree (.ref z)) Q E s := by
  unfold Builtin.SmallTypes.ownedTupleIsFree
  refine wpAny_bind (wpAny_field hz rfl (x := rawInt T) rfl ?_)
  unfold rawInt
  dsimp only
  refine wpAny_bind (kdx_alive (by simpa using hT) ?_)
  simp only [Option.isNone_some, Bool.false_eq_true, if_false]
  refine wpAny_bind (wpAny_field hz rfl (x := .bool b) rfl ?_)
  cases b with
  | true =>
    simp only [bne_self_eq_false, Bool.false_eq_true, if_false]
    exact wpAny_pure (hQ _ hz (fun _ _ _ e => e) rfl)
  | false =>
    rw [if_pos (by decide)]
    refine wpAny_bind (wpAny_setField_rec hz (by simp) fun h₁ hz₁ hs₁ => ?_)
    exact wpAny_pure (hQ h₁ hz₁ hs₁.extBut hs₁.1)
theorem zip_again_item {z TI TO i1 i2 l1 l2 T : Addr} {oT : Obj} {b : Bool} {k1 k2 : Nat} {xs ys : Array Value} {x y : Value} {Q : Value → Shared → Prop} (D : ZipApart z TI TO i1 i2 l1 l2)
    (hz : ZipB s.heap z TI TO T b) (hT : s.heap.get? T = some oT) (hTI : IsPair s.heap TI (.ref i1) (.ref i2))
    (h1 : s.heap.IsListIter i1 l1 k1) (h2 : s.heap.IsListIter i2 l2 k2) (hl1 : s.heap.IsList l1 xs) (hl2 : s.heap.IsList l2 ys) (hx : xs[k1]? = some x) (hy : ys[k2]? = some y)
    (hQ : ∀ h', ZipB h' z TI TO T true → h'.IsListIter i1 l1 (k1 + 1) → h'.IsListIter i2 l2 (k2 + 1) → IsPair h' s.heap.objs.size x y → h'.objs.size = s.heap.objs.size + 1 →
      (∀ c o, c ≠ z → c ≠ i1 → c ≠ i2 → s.heap.get? c = some o → h'.get? c = some o) → Q (.ref s.heap.objs.size) { s with heap := h' }) :
    wpAny (model prog w) A (Builtin.«zip.__next__» ⟨[.ref z], []⟩) (fun fin s' => ∃ v, fin = .done (.ret v) ∧ Q v s') E s := by
  show wpAny _ _ (field (.ref z) 2 >>= _) _ _ _
  refine wpAny_bind (wpAny_field hz rfl (x := .bool false) rfl ?_)
  show wpAny _ _ (field (.ref z) 3 >>= _) _ _ _
  refine wpAny_bind (wpAny_field hz rfl (x := .ref TI) rfl ?_)
  refine wpAny_bind (wpAny_seqItems hTI rfl ?_)
  show wpAny _ _ (Builtin.SmallTypes.ownedTupleIsFree (.ref z) >>= _) _ _ _
  refine wpAny_bind (zip_held hz hT fun h₁ hz₁ e₁ n₁ => ?_)
  simp only [Bool.false_eq_true, if_false]
  refine wpAny_bind ?_
  simp only [List.forIn_cons, List.forIn_nil, ← Array.forIn_toList]
  refine wpAny_bind (wpAny_bind (wpAny_holding ?_))
  show wpAny _ _ (Builtin.SmallTypes.nextOf (.ref i1) >>= _) _ _ _
  refine wpAny_bind (wpAny_nextOf_list_item (h1.extBut e₁ D.i1z) (hl1.extBut e₁ D.l1z) hx fun h₂ h1₂ hs₂ => wpAny_pure ?_)
  refine wpAny_pure ?_
  refine wpAny_bind (wpAny_bind (wpAny_holding ?_))
  show wpAny _ _ (Builtin.SmallTypes.nextOf (.ref i2) >>= _) _ _ _
  refine wpAny_bind (wpAny_nextOf_list_item ((h2.extBut e₁ D.i2z).extBut hs₂.extBut D.i12.symm) ((hl2.extBut e₁ D.l2z).extBut hs₂.extBut D.l2i1) hy fun h₃ h2₃ hs₃ => wpAny_pure ?_)
  refine wpAny_pure (wpAny_pure ?_)
  show wpAny _ _ (newTuple [x, y] >>= fun r => ret r) _ _ _
  refine wpAny_bind (wpAny_newTuple ?_)
  have hsz : h₃.objs.size = s.heap.objs.size := by rw [hs₃.1, hs₂.1, n₁]
  have hz₃ : ZipB h₃ z TI TO T true := hs₃.extBut _ _ D.i2z.symm (hs₂.extBut _ _ D.i1z.symm hz₁)
  have up : ∀ c o, h₃.get? c = some o → (h₃.push { cls := .type "tuple", data := .seq [x, y].toArray }).get? c = some o := fun c o e => Heap.get?_push_of_some _ e
  refine wpAny_pure ⟨_, rfl, ?_⟩
  show Q (.ref h₃.objs.size) _
  have hnew : (h₃.push { cls := .type "tuple", data := .seq [x, y].toArray }).get? h₃.objs.size = some _ := Heap.get?_push_size _ rfl
  rw [hsz] at hnew ⊢
  exact hQ _ (up _ _ hz₃) ((h1₂.extBut hs₃.extBut D.i12).at fun o e => up _ o e) (h2₃.at fun o e => up _ o e) hnew (by rw [Heap.size_push, hsz])
    fun c o c1 c2 c3 e => up c o (hs₃.extBut _ _ c3 (hs₂.extBut _ _ c2 (e₁ _ _ c1 e)))
theorem zip_again_end {z TI TO i1 i2 l1 l2 T : Addr} {oT : Obj} {b : Bool} {k1 k2 : Nat} {xs ys : Array Value} {x : Value} {Q : Fin → Shared → Prop} (hh : A.handled = none) (D : ZipApart z TI TO i1 i2 l1 l2)
    (hz : ZipB s.heap z TI TO T b) (hT : s.heap.get? T = some oT) (hTI : IsPair s.heap TI (.ref i1) (.ref i2))
    (h1 : s.heap.IsListIter i1 l1 k1) (h2 : s.heap.IsListIter i2 l2 k2) (hl1 : s.heap.IsList l1 xs) (hl2 : s.heap.IsList l2 ys) (hx : xs[k1]? = some x) (hy : ys[k2]? = none)
    (hE : ∀ h' e, (∀ c o, c ≠ z → c ≠ i1 → c ≠ i2 → s.heap.get? c = some o → h'.get? c = some o) → (∃ o, h'.get? e = some o ∧ o.cls = .type "StopIteration") → E (.ref e) { s with heap := h' }) :
    wpAny (model prog w) A (Builtin.«zip.__next__» ⟨[.ref z], []⟩) Q E s := by
  show wpAny _ _ (field (.ref z) 2 >>= _) _ _ _
  refine wpAny_bind (wpAny_field hz rfl (x := .bool false) rfl ?_)
  show wpAny _ _ (field (.ref z) 3 >>= _) _ _ _
  refine wpAny_bind (wpAny_field hz rfl (x := .ref TI) rfl ?_)
  refine wpAny_bind (wpAny_seqItems hTI rfl ?_)
  show wpAny _ _ (Builtin.SmallTypes.ownedTupleIsFree (.ref z) >>= _) _ _ _
  refine wpAny_bind (zip_held hz hT fun h₁ hz₁ e₁ n₁ => ?_)
  simp only [Bool.false_eq_true, if_false]
  refine wpAny_bind ?_
  simp only [List.forIn_cons, List.forIn_nil, ← Array.forIn_toList]
  refine wpAny_bind (wpAny_bind (wpAny_holding ?_))
  show wpAny _ _ (Builtin.SmallTypes.nextOf (.ref i1) >>= _) _ _ _
  refine wpAny_bind (wpAny_nextOf_list_item (h1.extBut e₁ D.i1z) (hl1.extBut e₁ D.l1z) hx fun h₂ h1₂ hs₂ => wpAny_pure ?_)
  refine wpAny_pure ?_
  refine wpAny_bind (wpAny_bind (wpAny_holding ?_))
  show wpAny _ _ (Builtin.SmallTypes.nextOf (.ref i2) >>= _) _ _ _
  refine wpAny_bind (wpAny_nextOf_list_end hh ((h2.extBut e₁ D.i2z).extBut hs₂.extBut D.i12.symm) ((hl2.extBut e₁ D.l2z).extBut hs₂.extBut D.l2i1) hy fun h₃ e hs₃ he => ?_)
  exact hE h₃ e (fun c o c1 c2 c3 e' => hs₃ _ _ c3 (hs₂.extBut _ _ c2 (e₁ _ _ c1 e'))) he
theorem next_again_item {z TI TO i1 i2 l1 l2 T : Addr} {oT : Obj} {b : Bool} {k1 k2 : Nat} {xs ys : Array Value} {x y : Value} {Q : Option Value → Shared → Prop} (D : ZipApart z TI TO i1 i2 l1 l2)
    (hz : ZipB s.heap z TI TO T b) (hT : s.heap.get? T = some oT) (hTI : IsPair s.heap TI (.ref i1) (.ref i2))
    (h1 : s.heap.IsListIter i1 l1 k1) (h2 : s.heap.IsListIter i2 l2 k2) (hl1 : s.heap.IsList l1 xs) (hl2 : s.heap.IsList l2 ys) (hx : xs[k1]? = some x) (hy : ys[k2]? = some y)
    (hQ : ∀ h', ZipB h' z TI TO T true → h'.IsListIter i1 l1 (k1 + 1) → h'.IsListIter i2 l2 (k2 + 1) → IsPair h' s.heap.objs.size x y → h'.objs.size = s.heap.objs.size + 1 →
      (∀ c o, c ≠ z → c ≠ i1 → c ≠ i2 → s.heap.get? c = some o → h'.get? c = some o) → Q (some (.ref s.heap.objs.size)) { s with heap := h' }) :
    wpAny (model prog w) A (pyNext (.ref z)) Q E s := by
  have hT' : s.TypeIs (.ref z) "zip" := ⟨_, hz, rfl⟩
  unfold pyNext
  exact wpAny_bind (wpAny_attempt (wpAny_callSpecial?_slot (name := Str.ofString "__next__") hT' F.slot_zip_next
    (wpAny_call_entry F.slot_zip_next hT' F.entry_zip_next
      (zip_again_item D hz hT hTI h1 h2 hl1 hl2 hx hy fun h' a1 a2 a3 a4 a5 a6 => wpAny_pure (hQ h' a1 a2 a3 a4 a5 a6)) (F.args_zip_next_1 _))))
theorem next_again_end {z TI TO i1 i2 l1 l2 T : Addr} {oT : Obj} {b : Bool} {k1 k2 : Nat} {xs ys : Array Value} {x : Value} {Q : Option Value → Shared → Prop} (hh : A.handled = none) (D : ZipApart z TI TO i1 i2 l1 l2)
    (hz : ZipB s.heap z TI TO T b) (hT : s.heap.get? T = some oT) (hTI : IsPair s.heap TI (.ref i1) (.ref i2))
    (h1 : s.heap.IsListIter i1 l1 k1) (h2 : s.heap.IsListIter i2 l2 k2) (hl1 : s.heap.IsList l1 xs) (hl2 : s.heap.IsList l2 ys) (hx : xs[k1]? = some x) (hy : ys[k2]? = none)
    (hQ : ∀ h', (∀ c o, c ≠ z → c ≠ i1 → c ≠ i2 → s.heap.get? c = some o → h'.get? c = some o) → Q none { s with heap := h' }) : wpAny (model prog w) A (pyNext (.ref z)) Q E s := by
  have hT' : s.TypeIs (.ref z) "zip" := ⟨_, hz, rfl⟩
  unfold pyNext
  refine wpAny_bind (wpAny_attempt (wpAny_callSpecial?_slot (name := Str.ofString "__next__") hT' F.slot_zip_next
    (wpAny_call_entry F.slot_zip_next hT' F.entry_zip_next (zip_again_end hh D hz hT hTI h1 h2 hl1 hl2 hx hy fun h' e hk he => ?_) (F.args_zip_next_1 _))))
  obtain ⟨o, ho, hc⟩ := he
  refine wpAny_bind (wpAny_isInstance (T := "StopIteration") (b := true) ⟨o, ho, hc⟩ isSubtype_stop ?_)
  exact wpAny_pure (hQ _ hk)
end
end Mine
end
section
open PySem PySem.W PyProof.Rows PySem.Calls PySem.Spec
namespace Mine
def KeepZ (z TO i1 i2 : Addr) (h h' : Heap) : Prop := ∀ c o, c ≠ z → c ≠ TO → c ≠ i1 → c ≠ i2 → h.get? c = some o → h'.get? c = some o
theorem KeepZ.trans {z TO i1 i2 : Addr} {h h' h'' : Heap} (a : KeepZ z TO i1 i2 h h') (b : KeepZ z TO i1 i2 h' h'') : KeepZ z TO i1 i2 h h'' := fun c o c1 c2 c3 c4 e => b c o c1 c2 c3 c4 (a c o c1 c2 c3 c4 e)
structure ZipSt (z TI TO i1 i2 l1 l2 : Addr) (xs ys : Array Value) (i : Nat) (h : Heap) : Prop where
  st : (IsZip h z TI TO .none ∧ ∃ a b, IsPair h TO a b) ∨ (0 < i ∧ ∃ T oT b, ZipB h z TI TO T b ∧ h.get? T = some oT)
  pr : IsPair h TI (.ref i1) (.ref i2)
  t1 : h.IsListIter i1 l1 i
  t2 : h.IsListIter i2 l2 i
  a1 : h.IsList l1 xs
  a2 : h.IsList l2 ys
theorem ZipSt.at_ {z TI TO i1 i2 l1 l2 : Addr} {xs ys : Array Value} {i : Nat} {h h' : Heap} (Z : ZipSt z TI TO i1 i2 l1 l2 xs ys i h) (k : ∀ c o, h.get? c = some o → c = z ∨ c = TI ∨ c = TO ∨ c = i1 ∨ c = i2 ∨ c = l1 ∨ c = l2 ∨ (∃ T b, ZipB h z TI TO T b ∧ c = T) → h'.get? c = some o) : ZipSt z TI TO i1 i2 l1 l2 xs ys i h' := by
  refine ⟨?_, k _ _ Z.pr (by simp), Z.t1.at fun o e => k _ o e (by simp), Z.t2.at fun o e => k _ o e (by simp), Z.a1.at fun o e => k _ o e (by simp), Z.a2.at fun o e => k _ o e (by simp)⟩
  rcases Z.st with ⟨h1, a, b, h2⟩ | ⟨hi, T, oT, b, h1, h2⟩
  · exact .inl ⟨k _ _ h1 (by simp), a, b, k _ _ h2 (by simp)⟩
  · exact .inr ⟨hi, T, oT, b, k _ _ h1 (by simp), k _ _ h2 (by right; right; right; right; right; right; right; exact ⟨T, b, h1, rfl⟩)⟩
section
variable {prog : Program} {w : World} {A : Around} {E : Value → Shared → Prop}
theorem zip_turn {s : Shared} {z TI TO i1 i2 l1 l2 : Addr} {xs ys : Array Value} {i : Nat} {x y : Value} {Q : Option Value → Shared → Prop} (D : ZipApart z TI TO i1 i2 l1 l2) (Z : ZipSt z TI TO i1 i2 l1 l2 xs ys i s.heap)
    (hx : xs[i]? = some x) (hy : ys[i]? = some y)
    (hQ : ∀ h', ZipSt z TI TO i1 i2 l1 l2 xs ys (i + 1) h' → IsPair h' s.heap.objs.size x y → h'.objs.size = s.heap.objs.size + 1 → KeepZ z TO i1 i2 s.heap h' → Q (some (.ref s.heap.objs.size)) { s with heap := h' }) :
    wpAny (model prog w) A (pyNext (.ref z)) Q E s := by
  rcases Z.st with ⟨hz, a, b, hTO⟩ | ⟨hi, T, oT, b, hz, hT⟩
  · refine wpAny_pyNext_zip_item D hz Z.pr hTO Z.t1 Z.t2 Z.a1 Z.a2 hx hy fun h' b1 b2 b3 b4 b5 b6 b7 => ?_
    exact hQ h' ⟨.inr ⟨Nat.succ_pos _, _, _, false, b1, b5⟩, b7 _ _ D.TIz D.TITO D.TIi1 D.TIi2 Z.pr, b3, b4, Z.a1.at fun o e => b7 _ o D.l1z D.l1TO D.l1i1 D.l1i2 e, Z.a2.at fun o e => b7 _ o D.l2z D.l2TO D.l2i1 D.l2i2 e⟩ b5 b6 b7
  · refine next_again_item D hz hT Z.pr Z.t1 Z.t2 Z.a1 Z.a2 hx hy fun h' b1 b2 b3 b4 b5 b6 => ?_
    have hTz : T = z ∨ T = i1 ∨ T = i2 ∨ h'.get? T = some oT := by
      by_cases c1 : T = z
      · exact .inl c1
      · by_cases c2 : T = i1
        · exact .inr (.inl c2)
        · by_cases c3 : T = i2
          · exact .inr (.inr (.inl c3))
          · exact .inr (.inr (.inr (b6 T oT c1 c2 c3 hT)))
    have hT' : ∃ o, h'.get? T = some o := by
      rcases hTz with rfl | rfl | rfl | h
      · exact ⟨_, b1⟩
      · obtain ⟨o, e, _⟩ := b2; exact ⟨o, e⟩
      · obtain ⟨o, e, _⟩ := b3; exact ⟨o, e⟩
      · exact ⟨_, h⟩
    obtain ⟨o', ho'⟩ := hT'
    exact hQ h' ⟨.inr ⟨Nat.succ_pos _, T, o', true, b1, ho'⟩, b6 _ _ D.TIz D.TIi1 D.TIi2 Z.pr, b2, b3, Z.a1.at fun o e => b6 _ o D.l1z D.l1i1 D.l1i2 e, Z.a2.at fun o e => b6 _ o D.l2z D.l2i1 D.l2i2 e⟩ b4 b5 fun c o c1 _ c3 c4 e => b6 c o c1 c3 c4 e
theorem zip_stop {s : Shared} {z TI TO i1 i2 l1 l2 : Addr} {xs ys : Array Value} {i : Nat} {x : Value} {Q : Option Value → Shared → Prop} (hh : A.handled = none) (D : ZipApart z TI TO i1 i2 l1 l2) (Z : ZipSt z TI TO i1 i2 l1 l2 xs ys i s.heap)
    (hx : xs[i]? = some x) (hy : ys[i]? = none) (hQ : ∀ h', KeepZ z TO i1 i2 s.heap h' → Q none { s with heap := h' }) :
    wpAny (model prog w) A (pyNext (.ref z)) Q E s := by
  rcases Z.st with ⟨hz, a, b, hTO⟩ | ⟨hi, T, oT, b, hz, hT⟩
  · exact wpAny_pyNext_zip_end hh D hz Z.pr hTO Z.t1 Z.t2 Z.a1 Z.a2 (.inr hy) fun h' b7 => hQ h' b7
  · exact next_again_end hh D hz hT Z.pr Z.t1 Z.t2 Z.a1 Z.a2 hx hy fun h' b6 => hQ h' fun c o c1 _ c3 c4 e => b6 c o c1 c3 c4 e

inductive ZipSrc (prog : Program) (w : World) (A : Around) (env : Env) (ct : Expr) (x : Str) (scope : Scope) (cl : List (Str × Addr)) (Q : Value → Shared → Prop) (xv : Value) (s₁ : Shared) : Prop
  | mk (z TI TO i1 i2 l1 l2 : Addr) (xs ys : Array Value) (e1 : xv = .ref z) (e2 : A.handled = none) (e3 : ZipApart z TI TO i1 i2 l1 l2) (e4 : ZipSt z TI TO i1 i2 l1 l2 xs ys 0 s₁.heap) (e5 : xs.size = ys.size + 1) (e6 : (∀ (i : Nat) (a b : Value) (T C : Addr) (h : Heap) (tk : Nat) (m : Str → Option Value) (E' : Value → Shared → Prop), xs[i]? = some a → ys[i]? = some b → IsPair h T a b → KeepZ z TO i1 i2 s₁.heap h → h.Ns C m → m x = some (.ref T) → s₁.heap.objs.size ≤ C → T ≠ C → s₁.heap.get? T = none →
      wpAny (model prog w) A (isTrue ct (compEnvC scope cl C env) (eval ct (compEnvC scope cl C env))) (fun ok s' => ok = false ∧ ∃ tk', s' = { s₁ with heap := h, toks := tk' }) E' { s₁ with heap := h, toks := tk })) (e7 : (∀ (D : Addr) (h' : Heap) (tk : Nat), KeepZ z TO i1 i2 s₁.heap h' → s₁.heap.get? D = none → h'.get? D = some (listOf ([] : List Value).toArray 0) → Q (.ref D) { s₁ with heap := h', toks := tk })) : ZipSrc prog w A env ct x scope cl Q xv s₁
theorem ns_some {h : Heap} {C : Addr} {m : Str → Option Value} (hn : h.Ns C m) : ∃ o, h.get? C = some o := let ⟨o, _, _, e, _⟩ := hn; ⟨o, e⟩
theorem comp_zip {s : Shared} {env : Env} {ct elt iter : Expr} {x : Str} {px : Pos} {scope : Scope} {cl : List (Str × Addr)} {pos : Pos} {Q : Value → Shared → Prop}
    (hclos : closureFor scope env = pure cl) (hcell : ∀ y ∈ scope.names, y.2 ≠ .cell) (hkind : scope.kind = .function)
    (hnames : ∀ y ∈ scope.names, y.2 = .local → scope.names.lookup y.1 = some .local) (hx : scope.names.lookup x = some .local)
    (h : wpAny (model prog w) A (eval iter env) (ZipSrc prog w A env ct x scope cl Q) E s)
    (hs : ∀ x, foldedSetIterable iter env x = pure x := by intro _; rfl) :
    wpAny (model prog w) A (eval (.ListComp elt [⟨.Name x px, iter, [ct], 0⟩] scope pos) env) Q E s := by
  rw [eval_ListComp]
  refine wpAny_comprehension_free (use := none) rfl hs hclos hkind hnames (wpAny_mono h (fun xv s₁ h₁ => ?_) fun _ _ e => e)
  obtain ⟨z, TI, TO, i1, i2, l1, l2, xs, ys, rfl, hh, D, Z, hsz, ht, hf⟩ := h₁
  have hz : ∃ f0, IsZip s₁.heap z TI TO f0 := by
    rcases Z.st with ⟨hz, _⟩ | ⟨hi, _⟩
    · exact ⟨_, hz⟩
    · exact absurd hi (Nat.lt_irrefl _)
  obtain ⟨f0, hz⟩ := hz
  refine wpAny_pyIter_zip hz ?_
  refine wpAny_newObj_type (wpAny_newFunctionEnv hcell (by intro y hy; simp at hy) (fun h₁ hns₁ hsb₁ => ?_) hkind)
  dsimp only at hns₁ hsb₁ ⊢
  generalize hH2 : s₁.heap.push { cls := .type "list", dict := none, data := .seq ([] : List Value).toArray } = H2 at hns₁ hsb₁ ⊢
  have hC : H2.objs.size = s₁.heap.objs.size + 1 := by rw [← hH2, Heap.size_push]
  have hDC : s₁.heap.objs.size ≠ H2.objs.size := by rw [hC]; exact Nat.ne_of_lt (Nat.lt_succ_self _)
  have below : ∀ b, b < s₁.heap.objs.size → b ≠ H2.objs.size ∧ b ≠ s₁.heap.objs.size := fun b hb => ⟨by rw [hC]; exact Nat.ne_of_lt (Nat.lt_succ_of_lt hb), Nat.ne_of_lt hb⟩
  have old : ∀ b o, s₁.heap.get? b = some o → h₁.get? b = some o := fun b o e => hsb₁.extBut b o (below b (Heap.lt_size e)).1 (Heap.get?_push_of_some _ (hH2 ▸ Heap.get?_push_of_some _ e))
  have hacc : h₁.get? s₁.heap.objs.size = some (listOf ([] : List Value).toArray 0) := hsb₁.extBut _ _ hDC (Heap.get?_push_of_some _ (hH2 ▸ Heap.get?_push_size _ rfl))
  have fresh : ∀ a, s₁.heap.objs.size ≤ a → s₁.heap.get? a = none := fun a ha => by
    cases e : s₁.heap.get? a with
    | none => rfl
    | some o' => exact absurd (Heap.lt_size e) (Nat.not_lt.mpr ha)
  have bz : z < s₁.heap.objs.size := Heap.lt_size hz
  have bTI : TI < s₁.heap.objs.size := Heap.lt_size Z.pr
  have bTO : TO < s₁.heap.objs.size := by
    rcases Z.st with ⟨_, a, b, h⟩ | ⟨hi, _⟩
    · exact Heap.lt_size h
    · exact absurd hi (Nat.lt_irrefl _)
  have bi1 : i1 < s₁.heap.objs.size := by obtain ⟨o, e, _⟩ := Z.t1; exact Heap.lt_size e
  have bi2 : i2 < s₁.heap.objs.size := by obtain ⟨o, e, _⟩ := Z.t2; exact Heap.lt_size e
  have bl1 : l1 < s₁.heap.objs.size := by obtain ⟨o, e, _⟩ := Z.a1; exact Heap.lt_size e
  have bl2 : l2 < s₁.heap.objs.size := by obtain ⟨o, e, _⟩ := Z.a2; exact Heap.lt_size e
  have sm : ∀ (i : Nat) (h h' : Heap) (m' : Str → Option Value), ZipSt z TI TO i1 i2 l1 l2 xs ys i h → Heap.SameBut H2.objs.size h h' → h'.Ns H2.objs.size m' → ZipSt z TI TO i1 i2 l1 l2 xs ys i h' := fun i h h' m' Z hs hn => by
    have k : ∀ b o, b < s₁.heap.objs.size → h.get? b = some o → h'.get? b = some o := fun b o hb e => hs.extBut b o (below b hb).1 e
    refine ⟨?_, k _ _ bTI Z.pr, Z.t1.at fun o e => k _ o bi1 e, Z.t2.at fun o e => k _ o bi2 e, Z.a1.at fun o e => k _ o bl1 e, Z.a2.at fun o e => k _ o bl2 e⟩
    rcases Z.st with ⟨h1, a, b, h2⟩ | ⟨hi, T, oT, b, h1, h2⟩
    · exact .inl ⟨k _ _ bz h1, a, b, k _ _ bTO h2⟩
    · by_cases hT : T = H2.objs.size
      · obtain ⟨o, e⟩ := ns_some hn
        exact .inr ⟨hi, T, o, b, k _ _ bz h1, hT ▸ e⟩
      · exact .inr ⟨hi, T, oT, b, k _ _ bz h1, hs.extBut T oT hT h2⟩
  have Z₁ : ZipSt z TI TO i1 i2 l1 l2 xs ys 0 h₁ := by
    refine Z.at_ fun c o e _ => ?_
    exact old c o e
  have loop : ∀ s₃ : Shared, s₃ = { s₁ with heap := h₁, toks := s₁.toks + ([] : List (Str × Value)).length } →
      codeAny (model prog w) A (.compLoop (.ListComp elt [⟨.Name x px, iter, [ct], 0⟩] scope pos) 0 (.ref z) (.ref s₁.heap.objs.size) (compEnvC scope cl H2.objs.size env))
        (compPost (model prog w) A E none Q (.ref s₁.heap.objs.size) H2.objs.size) s₃ := by
    rintro s₃ rfl
    refine codeAny_compLoop_tests
      (fun k s' => ∃ h' tk i m', s' = { s₁ with heap := h', toks := tk } ∧ i ≤ ys.size ∧ k = ys.size + 1 - i ∧ ZipSt z TI TO i1 i2 l1 l2 xs ys i h' ∧ KeepZ z TO i1 i2 s₁.heap h' ∧ h'.Ns H2.objs.size m' ∧ h'.get? s₁.heap.objs.size = some (listOf ([] : List Value).toArray 0) ∧ H2.objs.size < h'.objs.size) ?_ (ys.size + 1)
      ⟨h₁, _, 0, _, rfl, Nat.zero_le _, rfl, Z₁, fun c o _ _ _ _ e => old c o e, hns₁, hacc, hns₁.lt⟩
    rintro k s' ⟨h', tk, i, m', rfl, hi, rfl, Z', K', hn', hD', hlt'⟩
    have kz : ∀ {h h' : Heap}, KeepZ z TO i1 i2 h h' → ∀ c o, s₁.heap.objs.size ≤ c → h.get? c = some o → h'.get? c = some o := fun K c o hc e => K c o (Nat.ne_of_gt (Nat.lt_of_lt_of_le bz hc)) (Nat.ne_of_gt (Nat.lt_of_lt_of_le bTO hc)) (Nat.ne_of_gt (Nat.lt_of_lt_of_le bi1 hc)) (Nat.ne_of_gt (Nat.lt_of_lt_of_le bi2 hc)) e
    have hCle : s₁.heap.objs.size ≤ H2.objs.size := by omega
    by_cases hlt : i < ys.size
    · obtain ⟨a, ha⟩ : ∃ a, xs[i]? = some a := ⟨_, Array.getElem?_eq_getElem (by omega)⟩
      obtain ⟨b, hb⟩ : ∃ b, ys[i]? = some b := ⟨_, Array.getElem?_eq_getElem hlt⟩
      refine zip_turn D Z' ha hb fun h₂ Z₂ hp₂ hsz₂ K₂ => ?_
      dsimp only at hp₂ hsz₂ K₂ ⊢
      refine wpAny_assign_Name (wpAny_storeName_local (lookup_relabel_local hx) (hn'.at' fun o e => kz K₂ _ o hCle e) (fun h₃ hn₃ hs₃ => ?_) (by simp [compEnvC, relabel, hkind]))
      refine wpAny_tests_one ?_
      have hTC : h'.objs.size ≠ H2.objs.size := by omega
      have K₃ : KeepZ z TO i1 i2 s₁.heap h₃ := fun c o c1 c2 c3 c4 e => hs₃.extBut c o (below c (Heap.lt_size e)).1 (K₂ c o c1 c2 c3 c4 (K' c o c1 c2 c3 c4 e))
      refine wpAny_mono (ht i a b h'.objs.size H2.objs.size h₃ _ _ _ ha hb (hs₃.extBut _ _ hTC hp₂) K₃ hn₃ (by simp) hCle hTC (fresh _ (by omega))) (fun ok s₄ h₄ => ?_) fun _ _ e => e
      obtain ⟨rfl, tk', rfl⟩ := h₄
      simp only [Bool.false_eq_true, if_false]
      exact ⟨ys.size + 1 - (i + 1), by omega, h₃, _, i + 1, _, rfl, hlt, rfl, sm _ _ _ _ Z₂ hs₃ hn₃, K₃, hn₃, hs₃.extBut _ _ hDC (kz K₂ _ _ (Nat.le_refl _) hD'), hn₃.lt⟩
    · obtain rfl : i = ys.size := Nat.le_antisymm hi (Nat.not_lt.mp hlt)
      obtain ⟨a, ha⟩ : ∃ a, xs[ys.size]? = some a := ⟨_, Array.getElem?_eq_getElem (by omega)⟩
      refine zip_stop hh D Z' ha (by simp) fun h₂ K₂ => ?_
      dsimp only at K₂ ⊢
      refine ⟨m', hn'.at' fun o e => kz K₂ _ o hCle e, fun h₃ hs₃ => ?_⟩
      exact hf _ _ _ (fun c o c1 c2 c3 c4 e => hs₃.extBut c o (below c (Heap.lt_size e)).1 (K₂ c o c1 c2 c3 c4 (K' c o c1 c2 c3 c4 e))) (fresh _ (Nat.le_refl _)) (hs₃.extBut _ _ hDC (kz K₂ _ _ (Nat.le_refl _) hD'))
  exact codeAny_compStart_list (loop _ rfl) (wpAny_pyIter_zip (old _ _ hz) (loop _ rfl))
theorem zip_src {s : Shared} {h₀ : Heap} {L : Addr} {m : Str → Option Value} {news : List (Addr × Obj)} {env : Env} {ct : Expr} {x : Str} {scope : Scope} {cl : List (Str × Addr)} {r1 r2 : Addr} {xs ys : List Value} {n1 n2 : Nat} {Q : Value → Shared → Prop}
    (F : Fr h₀ L s.heap m) (N : News h₀ L s.heap news) (hh : A.handled = none) (m1 : (r1, listOf xs.toArray n1) ∈ news) (m2 : (r2, listOf ys.toArray n2) ∈ news) (hsz : xs.length = ys.length + 1)
    (ht : ∀ (i : Nat) (a b : Value) (T C : Addr) (oC : Obj) (h : Heap) (tk : Nat) (m₂ : Str → Option Value) (E' : Value → Shared → Prop), xs[i]? = some a → ys[i]? = some b → LCg.NsObj oC m₂ → m₂ x = some (.ref T) → Fr h₀ L h m → News h₀ L h ((T, tupOf [a, b]) :: (C, oC) :: news) →
      wpAny (model prog w) A (isTrue ct (compEnvC scope cl C env) (eval ct (compEnvC scope cl C env))) (fun ok s' => ok = false ∧ ∃ tk', s' = { s with heap := h, toks := tk' }) E' { s with heap := h, toks := tk })
    (hf : ∀ (D : Addr) (h' : Heap) (tk : Nat), Fr h₀ L h' m → News h₀ L h' ((D, listOf ([] : List Value).toArray 0) :: news) → (∀ p ∈ news, p.1 ≠ D) → Q (.ref D) { s with heap := h', toks := tk }) :
    wpAny (model prog w) A (call (.type "zip") [.ref r1, .ref r2]) (ZipSrc prog w A env ct x scope cl Q) E s := by
  have g1 := (N _ m1).1
  have g2 := (N _ m2).1
  have hl1 : s.heap.IsList r1 xs.toArray := ⟨_, g1, rfl, _, rfl⟩
  have hl2 : s.heap.IsList r2 ys.toArray := ⟨_, g2, rfl, _, rfl⟩
  have hlt1 : r1 < s.heap.objs.size := Heap.lt_size g1
  have hlt2 : r2 < s.heap.objs.size := Heap.lt_size g2
  refine call_zip_2 hl1 hl2 fun h' hz hTI hTO hi1 hi2 hsz' hk => ?_
  have D := ktu_apart s.heap.objs.size r1 r2 hlt1 hlt2
  have kp : ∀ h'', KeepZ (s.heap.objs.size + 4) (s.heap.objs.size + 3) s.heap.objs.size (s.heap.objs.size + 1) h' h'' → s.heap.StaysIn h'' := fun h'' K c o e => by
    have := Heap.lt_size e
    exact K c o (ktu_ne 4 this) (ktu_ne 3 this) (Nat.ne_of_lt this) (ktu_ne 1 this) (hk c o e)
  have none_of : ∀ c, h'.get? c = none → s.heap.get? c = none := fun c e => by
    cases e' : s.heap.get? c with
    | none => rfl
    | some o => rw [hk c o e'] at e; cases e
  refine ⟨_, _, _, _, _, _, _, _, _, rfl, hh, D, ⟨.inl ⟨hz, _, _, hTO⟩, hTI, hi1, hi2, hl1.at fun o e => hk _ o e, hl2.at fun o e => hk _ o e⟩, by simpa using hsz, ?_, ?_⟩
  · intro i a b T C h tk m₂ E' ha hb hp K hC hx hCs hTC hTn
    obtain ⟨oC, e, hoC⟩ := LCg.ns_obj hC
    have F₁ := fr_stays F (kp h K)
    have N₁ := news_stays N (kp h K)
    have hCn : s.heap.get? C = none := by
      cases e' : s.heap.get? C with
      | none => rfl
      | some o => exact absurd (Heap.lt_size e') (Nat.not_lt.mpr (Nat.le_trans (by rw [hsz']; exact Nat.le_add_right _ _) hCs))
    have N₂ := news_new F N (kp h K) hCn e
    refine ht i a b T C oC h tk m₂ E' (by simpa using ha) (by simpa using hb) hoC hx F₁ fun p hp' => ?_
    rcases List.mem_cons.mp hp' with rfl | hp'
    · have hTn' := none_of T hTn
      have q := news_new F N (kp h K) hTn' hp
      exact q _ (List.mem_cons_self)
    · exact N₂ p hp'
  · intro D' h'' tk K hDn hD'
    have hDn' := none_of D' hDn
    exact hf D' h'' tk (fr_stays F (kp _ K)) (news_new F N (kp _ K) hDn' hD') (news_ne N hDn')
end
end Mine
end
section
open PySem PySem.W PyProof.Rows PySem.Calls PySem.Spec
open PySem.Sem (wp)
namespace Mine
theorem list_no_keys : typeLookup (.type "list") "keys" = pure none := am_miss_of_fast (by kernel_rfl)
section
variable {prog : Program} {w : World} {A : Around} {E : Value → Shared → Prop} {s : Shared}
theorem keys_miss {a : Addr} {o : Obj} {xs : Array Value} {k : Nat} {Q : Option Value → Shared → Prop}
    (hx : s.heap.get? a = some o) (hc : o.cls = .type "list") (hdat : o.data = .seq xs k) (hd : o.dict = none) (hA : A.handled = none)
    (h : ∀ h' tk, s.heap.StaysIn h' → Q none { s with heap := h', toks := tk }) :
    wpAny (model prog w) A (getAttr? (.ref a) "keys") Q E s := by
  obtain ⟨c, dct, dat, sl⟩ := o
  simp only at hc hdat hd
  subst hc hdat hd
  obtain ⟨hp, g, d, tk, os⟩ := s
  have hT : ∀ tk', (⟨hp, g, d, tk', os⟩ : Shared).TypeIs (.ref a) "list" := fun _ => ⟨_, hx, rfl⟩
  have f1 := sub_AttributeError
  have f3 := F.slot_list_getattribute.lookup
  have f4 := F.slot_list_getattribute.bind (.ref a)
  have f5 := am_list_getattr_none
  unfold getAttr? getAttrBy? getAttrBy
  repeat (any_goals (first | assumption | exact hT _ | ((with_reducible show wpAny _ _ (call (Value.builtin "list.__getattribute__") _ _) _ _ _); refine call_meets F.slot_list_getattribute (hT _) am_entry_list_getattribute (F.args_list_getattribute_2 _ _) (meets_getattribute_miss_list a xs k sl "keys" _ list_no_keys (by decide) (by decide)) ⟨hx, hA, fun h' tk' e hx' => ?_⟩) | wp_step))
  obtain ⟨t', u', he⟩ := hx'.there
  show wpAny _ _ (getattributeRaised _ _ _ _ _ _ _) _ _ _
  unfold getattributeRaised
  repeat (any_goals (first | assumption | wp_step))
  exact h _ _ hx'.keeps

theorem plain_update_loop : plainId "dict.update.loop" = true := by decide +kernel
theorem entry_update_loop : entryFor table "dict.update.loop" = some Builtin.«dict.update.loop» := entryFor_of_fast (by kernel_rfl)
theorem pairs_loop {R : Result → Shared → Prop} {d I ax : Addr} {items : Array Value} {kvs : List (Int × Value)} (hh : A.handled = none) (hdI : d ≠ I) (hda : d ≠ ax) (hne : ax ≠ I) (hsz : kvs.length ≤ sizeLine) (hlen : items.size = kvs.length) :
    ∀ (k i : Nat) (s : Shared), kvs.length - i = k → i ≤ kvs.length → s.heap.IsListIter I ax i → s.heap.IsList ax items → s.heap.DictOf (intKind prog w) d (merged [] (kvs.take i)) →
    (∀ (j : Nat) (kv : Int × Value), kvs[j]? = some kv → ∃ (T : Addr) (t : Tok) (n : Nat), items[j]? = some (Value.ref T) ∧ T ≠ d ∧ T ≠ I ∧ s.heap.get? T = some { cls := .type "tuple", data := .seq #[.int kv.1 t, kv.2] n }) →
    (∀ h' tk, (∀ b o, b ≠ d → b ≠ I → s.heap.get? b = some o → h'.get? b = some o) → h'.DictOf (intKind prog w) d (merged [] kvs) → R (.ok (.ret .none)) { s with heap := h', toks := tk }) →
    codeAny (model prog w) A (.builtin "dict.update.loop" ⟨[.ref d, .ref I, rawInt i, .none], []⟩) R s := by
  have W := Walks.list (prog := prog) (w := w) (A := A.in1) hh I ax hne items
  intro k
  induction k with
  | zero =>
    intro i s hk hi hit hl hd hT hR
    have hin : i = kvs.length := by omega
    subst hin
    refine codeAny_builtin entry_update_loop ?_
    rw [Around.under_plainId plain_update_loop _]
    show wpAny _ A.in1 (pyNext (.ref I) >>= _) _ _ s
    refine wpAny_bind (W.done s _ _ (hlen ▸ ⟨hit, hl⟩) fun h' tk' hm => ?_)
    rw [List.take_length] at hd
    show wpAny _ _ (Builtin.Dict.addKeywords d [] >>= fun _ => ret Value.none) _ _ _
    refine wpAny_bind (wpAny_pure (wpAny_pure ?_))
    refine hR h' tk' (fun b o _ hb e => hm b o (by simpa using hb) e) ?_
    obtain ⟨oo, es, ep, e, rest⟩ := hd
    exact ⟨oo, es, ep, hm d _ (by simpa using hdI) e, rest⟩
  | succ k ih =>
    intro i s hk hi hit hl hd hT hR
    have hlt : i < kvs.length := by omega
    refine codeAny_builtin entry_update_loop ?_
    rw [Around.under_plainId plain_update_loop _]
    show wpAny _ A.in1 (pyNext (.ref I) >>= _) _ _ s
    refine wpAny_bind (W.item i s _ _ (by omega) ⟨hit, hl⟩ fun v h' tk' hP hst' hm => ?_)
    obtain ⟨T, t, n, h1, h2, h3, h4⟩ := hT i kvs[i] (List.getElem?_eq_getElem hlt)
    rw [h1] at hP; cases hP
    have hT' := hm T _ (by simpa using h3) h4
    have hty : ({ s with heap := h', toks := tk' } : Shared).TypeIs (.ref T) "tuple" := ⟨_, hT', rfl⟩
    show wpAny _ _ (holding [Value.ref T] _ >>= _) _ _ _
    refine wpAny_bind (wpAny_holding (wpAny_bind (wpAny_tryCatch ?_)))
    unfold Builtin.Dict.pairItems
    refine wpAny_bind (wpAny_typeOf hty ?_)
    rw [if_pos (by decide)]
    refine wpAny_bind (wpAny_seqItems hT' rfl (wpAny_pure ?_))
    show wpAny _ _ (holding [Value.int kvs[i].1 t, kvs[i].2] (dictSet d (Value.int kvs[i].1 t) kvs[i].2)) _ _ _
    have hmx : (merged [] (kvs.take i)).length ≤ sizeLine := by
      have e1 := merged_length_le [] (kvs.take i)
      have e2 : (kvs.take i).length ≤ kvs.length := by rw [List.length_take]; omega
      simp only [List.length_nil, Nat.zero_add] at e1
      omega
    have hd' : h'.DictOf (intKind prog w) d (merged [] (kvs.take i)) := by
      obtain ⟨oo, es, ep, e, rest⟩ := hd
      exact ⟨oo, es, ep, hm d _ (by simpa using hdI) e, rest⟩
    refine wpAny_holding (wpAny_dictSet_pairs (knd := intKind prog w) (k := kvs[i].1) (hsz := hmx) (by simp [intKind, Value.isInt]) hd' fun h'' hd'' hs'' => ?_)
    dsimp only at hs'' ⊢
    rw [← merged_take_succ [] kvs i kvs[i] (List.getElem?_eq_getElem hlt)] at hd''
    refine wpAny_pure ⟨plainId_quiet plain_update_loop _, ih (i + 1) _ (by omega) hlt ?_ ?_ hd'' ?_ ?_⟩
    · exact hst'.1.at fun o e => hs''.2 I (Ne.symm hdI) ▸ e
    · exact hst'.2.at fun o e => hs''.2 ax (Ne.symm hda) ▸ e
    · intro j kv hj
      obtain ⟨T', t', n', q1, q2, q3, q4⟩ := hT j kv hj
      exact ⟨T', t', n', q1, q2, q3, (hs''.2 T' q2).trans (hm T' _ (by simpa using q3) q4)⟩
    · intro h3' tk3 hk3 hd3
      exact hR h3' tk3 (fun b o c1 c2 e => hk3 b o c1 c2 ((hs''.2 b c1).trans (hm b o (by simpa using c2) e))) hd3

theorem call_dict_pairs {l : Addr} {items : List Value} {c : Nat} {kvs : List (Int × Value)} {Q : Value → Shared → Prop} (hh : A.handled = none) (hl : s.heap.get? l = some (listOf items.toArray c)) (hsz : kvs.length ≤ sizeLine) (hlen : items.length = kvs.length)
    (hT : ∀ (j : Nat) (kv : Int × Value), kvs[j]? = some kv → ∃ (T : Addr) (t : Tok) (n : Nat), items[j]? = some (Value.ref T) ∧ s.heap.get? T = some { cls := .type "tuple", data := .seq #[.int kv.1 t, kv.2] n })
    (h : ∀ h' tk, s.heap.StaysIn h' → h'.DictOf (intKind prog w) s.heap.objs.size (merged [] kvs) → Q (.ref s.heap.objs.size) { s with heap := h', toks := tk }) :
    wpAny (model prog w) A (call (.type "dict") [.ref l]) Q E s := by
  refine callType_codes (Q₁ := fun obj s₁ => obj = .ref s.heap.objs.size ∧ s₁ = { s with heap := s.heap.push { cls := .type "dict", data := .dict #[] } }) F.kt_called_dict (F.kt_typeCall_dict_1 _) F.entry_dict_init (kt_code_dict_new _ ⟨rfl, rfl⟩) ?_
  rintro obj s₁ ⟨rfl, rfl⟩
  have hnew : (s.heap.push { cls := .type "dict", data := .dict #[] }).DictOf (intKind prog w) s.heap.objs.size [] := Heap.DictOf.new s.heap
  have hl' : (s.heap.push { cls := .type "dict", data := .dict #[] }).get? l = some (listOf items.toArray c) := Heap.get?_push_of_some _ hl
  have hty : ({ s with heap := s.heap.push { cls := .type "dict", data := .dict #[] } } : Shared).TypeIs (.ref l) "list" := ⟨_, hl', rfl⟩
  refine ⟨hnew.typeIs, F.args_dict_init_2 _ _, ?_⟩
  unfold Builtin.«dict.__init__»
  refine wpAny_bind ?_
  unfold Builtin.Dict.selfAndRest
  refine wpAny_bind (wpAny_notOrdered_dict hnew.typeIs ?_)
  show wpAny _ _ (pure (s.heap.objs.size, [Value.ref l])) _ _ _
  refine wpAny_pure ?_
  show wpAny _ _ (Builtin.Dict.updateFrom "dict.__init__" s.heap.objs.size (.ref l) [] .none) _ _ _
  unfold Builtin.Dict.updateFrom
  refine wpAny_bind (wpAny_typeOf hty ?_)
  rw [if_pos (by decide)]
  refine wpAny_bind (keys_miss hl' rfl rfl rfl hh fun h1 tk1 st1 => ?_)
  rw [if_pos (show (none : Option Value).isNone = true from rfl)]
  have st0 : s.heap.StaysIn h1 := fun b o e => st1 b o (Heap.get?_push_of_some _ e)
  have hd1 : h1.DictOf (intKind prog w) s.heap.objs.size [] := by
    obtain ⟨oo, es, ep, e, rest⟩ := hnew
    exact ⟨oo, es, ep, st1 _ _ e, rest⟩
  have hl1 : h1.IsList l items.toArray := ⟨_, st1 _ _ hl', rfl, _, rfl⟩
  have hdlt : s.heap.objs.size < h1.objs.size := by obtain ⟨oo, es, ep, e, rest⟩ := hd1; exact Heap.lt_size e
  have hllt : l < s.heap.objs.size := Heap.lt_size hl
  refine wpAny_bind (wpAny_rule (wpAny_bind (wpAny_pyIter_list (hl := hl1) ?_)))
  refine wpAny_pure ⟨plainId_quiet plain_update_loop _, ?_⟩
  have hd2 : (h1.push { cls := .type "list_iterator", data := .fields #[.ref l, .int 0 0] }).DictOf (intKind prog w) s.heap.objs.size [] := by
    obtain ⟨oo, es, ep, e, rest⟩ := hd1
    exact ⟨oo, es, ep, Heap.get?_push_of_some _ e, rest⟩
  refine pairs_loop (A := A.in1) (d := s.heap.objs.size) (I := h1.objs.size) (ax := l) (items := items.toArray) (kvs := kvs) hh (Nat.ne_of_lt hdlt) (Nat.ne_of_gt hllt) (Nat.ne_of_lt (Nat.lt_trans hllt hdlt)) hsz (by simpa using hlen) _ 0 _ rfl (Nat.zero_le _) ?_ ?_ ?_ ?_ ?_
  · exact ⟨_, Heap.get?_push_size _ rfl, rfl, rfl⟩
  · exact hl1.at fun o e => Heap.get?_push_of_some _ e
  · rw [List.take_zero]; exact hd2
  · intro j kv hj
    obtain ⟨T, t, n, q1, q2⟩ := hT j kv hj
    have hTl := Heap.lt_size q2
    exact ⟨T, t, n, by simpa using q1, Nat.ne_of_lt hTl, Nat.ne_of_lt (Nat.lt_trans hTl hdlt), Heap.get?_push_of_some _ (st0 _ _ q2)⟩
  · intro h' tk hk hd'
    refine ⟨rfl, h h' tk (fun b o e => ?_) hd'⟩
    have hbl := Heap.lt_size e
    exact hk b o (Nat.ne_of_lt hbl) (Nat.ne_of_lt (Nat.lt_trans hbl hdlt)) (Heap.get?_push_of_some _ (st0 _ _ e))
inductive PairsIn (news : List (Addr × Obj)) : List Value → List Int → Prop
  | nil : PairsIn news [] []
  | cons {T : Addr} {k : Int} {t : Tok} {vs : List Value} {ks : List Int} : (T, ({ cls := .type "tuple", data := .seq [.int k t, .bool true].toArray } : Obj)) ∈ news → PairsIn news vs ks → PairsIn news (.ref T :: vs) (k :: ks)
theorem PairsIn.len {news : List (Addr × Obj)} {vs : List Value} {ks : List Int} (h : PairsIn news vs ks) : vs.length = ks.length := by
  induction h with
  | nil => rfl
  | cons _ _ ih => simp [ih]
theorem PairsIn.get {news : List (Addr × Obj)} {vs : List Value} {ks : List Int} (h : PairsIn news vs ks) : ∀ (j : Nat) (kv : Int × Value), (ks.map fun k => (k, Value.bool true))[j]? = some kv → ∃ (T : Addr) (t : Tok), vs[j]? = some (Value.ref T) ∧ kv.2 = .bool true ∧ (T, ({ cls := .type "tuple", data := .seq [.int kv.1 t, .bool true].toArray } : Obj)) ∈ news := by
  induction h with
  | nil => intro j kv hj; simp at hj
  | @cons T k t vs ks h1 _ ih =>
    intro j kv hj
    cases j with
    | zero => simp at hj; subst hj; exact ⟨T, t, rfl, rfl, h1⟩
    | succ j => exact ih j kv (by simpa using hj)
theorem flat_keys (ks : List Int) : PyProof.V.FlatPairs PyData.int (ks.map fun k => (k, Value.bool true)) (ks.map fun k => (PyData.int k, PyData.bool true)) := by
  induction ks with
  | nil => exact .nil
  | cons k ks ih => exact .cons (PyProof.V.Flat.bool true) ih
theorem use_dict {h₀ : Heap} {L l : Addr} {m : Str → Option Value} {news : List (Addr × Obj)} {items : List Value} {c : Nat} {ks : List Int} {Q : Value → Shared → Prop}
    (F : Fr h₀ L s.heap m) (N : News h₀ L s.heap news) (hh : A.handled = none) (hbig : h₀.NoLimit) (hl : (l, listOf items.toArray c) ∈ news) (hP : PairsIn news items ks) (hsz : ks.length ≤ sizeLine) (hn : ks.Nodup)
    (k : ∀ d h' tk o kvs, Fr h₀ L h' m → News h₀ L h' ((d, o) :: news) → (∀ p ∈ news, p.1 ≠ d) → (d == sysModules) = false → o.IsDictOf (intKind prog w) kvs → PyProof.V.FlatPairs PyData.int kvs (ks.map fun k => (PyData.int k, PyData.bool true)) → Q (.ref d) { s with heap := h', toks := tk }) :
    wpAny (model prog w) A (call (.type "dict") [.ref l]) Q E s := by
  refine call_dict_pairs (kvs := ks.map fun k => (k, Value.bool true)) hh (N _ hl).1 (by simpa using hsz) (by simpa using hP.len) (fun j kv hj => ?_) fun h' tk st hd => ?_
  · obtain ⟨T, t, q1, q2, q3⟩ := hP.get j kv hj
    exact ⟨T, t, _, q1, by rw [q2]; exact (N _ q3).1⟩
  · rw [merged_nil_of_nodup _ (by simpa [List.map_map, Function.comp_def] using hn)] at hd
    obtain ⟨o, e, ho⟩ := Heap.dictOf_iff.mp hd
    have hnone : s.heap.get? s.heap.objs.size = none := Heap.get?_none_of_le (Nat.le_refl _)
    exact k _ h' tk o _ (fr_stays F st) (news_new F N st hnone e) (news_ne N hnone) (F.notModules (modules_low hbig)) ho (flat_keys ks)
end
end Mine
end
section
open PySem PySem.W PyProof.Rows PySem.Calls PySem.Spec
namespace Mine
section
variable {prog : Program} {w : World} {A : Around} {E : Value → Shared → Prop}
def TupsAt (h : Heap) (items : List Value) (vs : List Value) : Prop := items.length = vs.length ∧ ∀ (j : Nat) (v : Value), vs[j]? = some v → ∃ T : Addr, items[j]? = some (Value.ref T) ∧ h.get? T = some { cls := .type "tuple", data := .seq [v, .bool true].toArray }
theorem pair_elt {s : Shared} {env : Env} {x : Str} {p1 p2 p3 : Pos} {k q : Nat} {m : Str → Option Value} {v : Value} {Q : Value → Shared → Prop} (hk : env.scope.kind = .function) (hl : env.kindOf x = some .local) (hn : s.heap.Ns env.locals m) (hv : m x = some v) (hd : (x == ("__debug__" : Str)) = false)
    (h : Q (.ref s.heap.objs.size) { s with heap := s.heap.push { cls := .type "tuple", data := .seq [v, .bool true].toArray } }) :
    wpAny (model prog w) A (eval (.Tuple [.Name x p1, .Constant (.bool true) q p2] k p3) env) Q E s := by
  refine wpAny_Tuple ?_
  refine wpAny_items_cons (wpAny_Name (wpAny_loadName_local hk hl hn hv ?_) hd) rfl
  refine wpAny_items_cons ?_ rfl
  rw [eval_Constant]
  refine wpAny_pure (wpAny_items_nil ⟨Nat.le_of_ble_eq_true rfl, h⟩)

inductive PairsSrc (env : Env) (Q : Value → Shared → Prop) (xv : Value) (s₁ : Shared) : Prop
  | mk (h₀ : Heap) (m : Str → Option Value) (l : Addr) (vs : List Value) (c : Nat) (news : List (Addr × Obj)) (e1 : xv = .ref l) (e2 : Fr h₀ env.locals s₁.heap m) (e3 : News h₀ env.locals s₁.heap news) (e4 : (l, listOf vs.toArray c) ∈ news) (e5 : vs.length ≤ sizeLine) (e6 : ∀ D h' tk items n, Fr h₀ env.locals h' m → News h₀ env.locals h' ((D, listOf items.toArray n) :: news) → (∀ p ∈ news, p.1 ≠ D) → TupsAt h' items vs → Q (.ref D) { s₁ with heap := h', toks := tk }) : PairsSrc env Q xv s₁
theorem comp_pairs {s : Shared} {env : Env} {iter : Expr} {x : Str} {px p1 p2 p3 : Pos} {k q : Nat} {scope : Scope} {cl : List (Str × Addr)} {pos : Pos} {Q : Value → Shared → Prop}
    (hh : A.handled = none) (hclos : closureFor scope env = pure cl) (hcell : ∀ y ∈ scope.names, y.2 ≠ .cell) (hkind : scope.kind = .function)
    (hnames : ∀ y ∈ scope.names, y.2 = .local → scope.names.lookup y.1 = some .local) (hx : scope.names.lookup x = some .local) (hd : (x == ("__debug__" : Str)) = false)
    (h : wpAny (model prog w) A (eval iter env) (PairsSrc env Q) E s)
    (hs : ∀ x, foldedSetIterable iter env x = pure x := by intro _; rfl) :
    wpAny (model prog w) A (eval (.ListComp (.Tuple [.Name x p1, .Constant (.bool true) q p2] k p3) [⟨.Name x px, iter, [], 0⟩] scope pos) env) Q E s := by
  rw [eval_ListComp]
  refine wpAny_comprehension_free (use := none) rfl hs hclos hkind hnames (wpAny_mono h (fun xv s₁ h₁ => ?_) fun _ _ e => e)
  obtain ⟨h₀, m, l, vs, c, news, rfl, F, N, hm, hsz, hf⟩ := h₁
  have hlg : s₁.heap.get? l = some (listOf vs.toArray c) := (N _ hm).1
  have hl : s₁.heap.IsList l vs.toArray := ⟨_, hlg, rfl, _, rfl⟩
  refine wpAny_pyIter_list hl ?_
  refine wpAny_newObj_type (wpAny_newFunctionEnv hcell (by intro y hy; simp at hy) (fun h₁ hns₁ hsb₁ => ?_) hkind)
  dsimp only at hns₁ hsb₁ ⊢
  generalize hI1 : s₁.heap.push { cls := .type "list_iterator", data := .fields #[.ref l, .int 0 0] } = H1 at hns₁ hsb₁ ⊢
  generalize hH2 : H1.push { cls := .type "list", data := .seq ([] : List Value).toArray } = H2 at hns₁ hsb₁ ⊢
  have hI : H1.objs.size = s₁.heap.objs.size + 1 := by rw [← hI1, Heap.size_push]
  have hC : H2.objs.size = s₁.heap.objs.size + 2 := by rw [← hH2, Heap.size_push, hI]
  have hD : H1.objs.size = s₁.heap.objs.size + 1 := hI
  have nDC : H1.objs.size ≠ H2.objs.size := neN (by omega)
  have nIC : s₁.heap.objs.size ≠ H2.objs.size := neN (by omega)
  have nID : s₁.heap.objs.size ≠ H1.objs.size := neN (by omega)
  have old : ∀ b o, s₁.heap.get? b = some o → h₁.get? b = some o := fun b o e => by
    have hb : b < s₁.heap.objs.size := Heap.lt_size e
    refine hsb₁.extBut b o (Nat.ne_of_lt (by rw [hC]; exact Nat.lt_add_right 2 hb)) (Heap.get?_push_of_some _ ?_)
    rw [← hH2, ← hI1]
    exact Heap.get?_push_of_some _ (Heap.get?_push_of_some _ e)
  have hacc : h₁.get? H1.objs.size = some (LCg.lst []) := hsb₁.extBut _ _ nDC (Heap.get?_push_of_some _ (hH2 ▸ Heap.get?_push_size _ rfl))
  have hit₁ : h₁.IsListIter s₁.heap.objs.size l 0 := ⟨_, hsb₁.extBut _ _ nIC (Heap.get?_push_of_some _ (hH2 ▸ Heap.get?_push_of_some _ (hI1 ▸ Heap.get?_push_size _ rfl))), rfl, rfl⟩
  have loop : ∀ s₃ : Shared, s₃ = { s₁ with heap := h₁, toks := s₁.toks + ([] : List (Str × Value)).length } →
      codeAny (model prog w) A (.compLoop (.ListComp (.Tuple [.Name x p1, .Constant (.bool true) q p2] k p3) [⟨.Name x px, iter, [], 0⟩] scope pos) 0 (.ref s₁.heap.objs.size) (.ref H1.objs.size) (compEnvC scope cl H2.objs.size env))
        (compPost (model prog w) A E none Q (.ref H1.objs.size) H2.objs.size) s₃ := by
    rintro s₃ rfl
    refine codeAny_compLoop_tests
      (fun k' s' => ∃ h' tk i m' items, s' = { s₁ with heap := h', toks := tk } ∧ i ≤ vs.length ∧ k' = vs.length + 1 - i ∧ s₁.heap.StaysIn h' ∧ h'.IsListIter s₁.heap.objs.size l i ∧ h'.Ns H2.objs.size m' ∧ h'.get? H1.objs.size = some (LCg.lst items) ∧ items.length = i ∧
        (∀ (j : Nat) (v : Value), vs[j]? = some v → j < i → ∃ T : Addr, items[j]? = some (Value.ref T) ∧ T ≠ H2.objs.size ∧ T ≠ H1.objs.size ∧ T ≠ s₁.heap.objs.size ∧ h'.get? T = some { cls := .type "tuple", data := .seq [v, .bool true].toArray }) ∧ H2.objs.size < h'.objs.size) ?_ (vs.length + 1)
      ⟨h₁, _, 0, _, [], rfl, Nat.zero_le _, rfl, old, hit₁, hns₁, hacc, rfl, fun j v _ hj => absurd hj (Nat.not_lt_zero _), hns₁.lt⟩
    rintro k' s' ⟨h', tk, i, m', items, rfl, hi, rfl, st', hit', hn', hD', hlen, hT', hlt'⟩
    have hl' : h'.IsList l vs.toArray := ⟨_, st' _ _ hlg, rfl, _, rfl⟩
    have bI : ∀ b o, s₁.heap.get? b = some o → b ≠ s₁.heap.objs.size := fun b o e => Nat.ne_of_lt (Heap.lt_size e)
    have bD : ∀ b o, s₁.heap.get? b = some o → b ≠ H1.objs.size := fun b o e => Nat.ne_of_lt (by rw [hI]; exact Nat.lt_succ_of_lt (Heap.lt_size e))
    have bC : ∀ b o, s₁.heap.get? b = some o → b ≠ H2.objs.size := fun b o e => Nat.ne_of_lt (by rw [hC]; exact Nat.lt_add_right 2 (Heap.lt_size e))
    by_cases hlt : i < vs.length
    · have hv : vs.toArray[i]? = some vs[i] := by simp [hlt]
      refine wpAny_pyNext_list_item hit' hl' hv fun h₂ hit₂ hs₂ => ?_
      refine wpAny_assign_Name (wpAny_storeName_local (lookup_relabel_local hx) (hn'.at' fun o e => hs₂.extBut _ o (Ne.symm nIC) e) (fun h₃ hn₃ hs₃ => ?_) (by simp [compEnvC, relabel, hkind]))
      refine wpAny_tests_nil ?_
      simp only [if_true]
      refine pair_elt (m := _) (by simp [compEnvC, relabel, hkind]) (lookup_relabel_local hx) hn₃ (show (if x = x then some vs[i] else m' x) = some vs[i] from if_pos rfl) hd ?_
      dsimp only
      have k₃ : ∀ b o, b ≠ H2.objs.size → b ≠ s₁.heap.objs.size → h'.get? b = some o → h₃.get? b = some o := fun b o c1 c2 e => hs₃.extBut b o c1 (hs₂.extBut b o c2 e)
      have hC₃ : H2.objs.size < h₃.objs.size := hn₃.lt
      have hD₃ : h₃.get? H1.objs.size = some (LCg.lst items) := k₃ _ _ nDC (Ne.symm nID) hD'
      refine append_at (hsz := by show items.toArray.size ≤ sizeLine; rw [List.size_toArray, hlen]; exact Nat.le_trans hi hsz) (Heap.get?_push_of_some _ hD₃) fun h₅ hs₅ hD₅ => ?_
      have hit₅ : h₅.IsListIter s₁.heap.objs.size l (i + 1) := hit₂.at fun o e => hs₅.extBut _ o nID (Heap.get?_push_of_some _ (hs₃.extBut _ o nIC e))
      have hn₅ : h₅.Ns H2.objs.size _ := hn₃.at' fun o e => hs₅.extBut _ o (Ne.symm nDC) (Heap.get?_push_of_some _ e)
      refine ⟨vs.length + 1 - (i + 1), by omega, h₅, _, i + 1, _, items ++ [.ref h₃.objs.size], rfl, hlt, rfl, ?_, hit₅, hn₅, hD₅.trans (congrArg some (LCg.lst_snoc items _)), by simp [hlen], ?_, hn₅.lt⟩
      · intro b o e
        exact hs₅.extBut b o (bD b o e) (Heap.get?_push_of_some _ (k₃ b o (bC b o e) (bI b o e) (st' b o e)))
      · intro j v hj hji
        by_cases hjl : j < i
        · obtain ⟨T, t1, t2, t3, t4, t5⟩ := hT' j v hj hjl
          exact ⟨T, by rw [List.getElem?_append_left (by omega)]; exact t1, t2, t3, t4, hs₅.extBut _ _ t3 (Heap.get?_push_of_some _ (k₃ _ _ t2 t4 t5))⟩
        · obtain rfl : j = i := by omega
          have hvv : v = vs[j] := by rw [List.getElem?_eq_getElem hlt] at hj; exact (Option.some.inj hj).symm
          have nT1 : h₃.objs.size ≠ H1.objs.size := neN (by omega)
          refine ⟨h₃.objs.size, by rw [← hlen]; simp, neN (by omega), nT1, neN (by omega), hs₅.extBut _ _ nT1 ?_⟩
          rw [hvv]
          exact Heap.get?_push_size _ rfl
    · obtain rfl : i = vs.length := Nat.le_antisymm hi (Nat.not_lt.mp hlt)
      refine wpAny_pyNext_list_end hh hit' hl' (by simp) fun h₂ hs₂ => ?_
      refine ⟨m', hn'.at' fun o e => hs₂ _ o (Ne.symm nIC) e, fun h₃ hs₃ => ?_⟩
      dsimp only
      have k₃ : ∀ b o, b ≠ H2.objs.size → b ≠ s₁.heap.objs.size → h'.get? b = some o → h₃.get? b = some o := fun b o c1 c2 e => hs₃.extBut b o c1 (hs₂ b o c2 e)
      have st₃ : s₁.heap.StaysIn h₃ := fun b o e => k₃ b o (bC b o e) (bI b o e) (st' b o e)
      have hDn : s₁.heap.get? H1.objs.size = none := Heap.get?_none_of_le (by rw [hI]; exact Nat.le_succ _)
      refine hf _ h₃ _ items _ (fr_stays F st₃) (news_new F N st₃ hDn (k₃ _ _ nDC (Ne.symm nID) hD')) (news_ne N hDn) ⟨by rw [hlen], fun j v hj => ?_⟩
      obtain ⟨T, t1, t2, t3, t4, t5⟩ := hT' j v hj (by have := List.getElem?_eq_some_iff.mp hj; exact this.1)
      exact ⟨T, t1, k₃ _ _ t2 t4 t5⟩
  exact codeAny_compStart_list (loop _ rfl) (wpAny_pyIter_listiter hit₁ (loop _ rfl))
theorem ints_get {vs : List Value} {ks : List Int} (h : IntsAre vs ks) : vs.length = ks.length ∧ ∀ (j : Nat) (k : Int), ks[j]? = some k → ∃ t : Tok, vs[j]? = some (.int k t) := by
  induction h with
  | nil => exact ⟨rfl, fun j k hj => by simp at hj⟩
  | cons a t _ ih =>
    refine ⟨by simp [ih.1], fun j k hj => ?_⟩
    cases j with
    | zero => simp at hj; subst hj; exact ⟨t, rfl⟩
    | succ j => exact ih.2 j k (by simpa using hj)
theorem use_dict2 {s : Shared} {h₀ : Heap} {L l : Addr} {m : Str → Option Value} {news : List (Addr × Obj)} {items vs : List Value} {c : Nat} {ks : List Int} {Q : Value → Shared → Prop}
    (F : Fr h₀ L s.heap m) (N : News h₀ L s.heap news) (hh : A.handled = none) (hbig : h₀.NoLimit) (hl : (l, listOf items.toArray c) ∈ news) (hP : TupsAt s.heap items vs) (hI : IntsAre vs ks) (hsz : ks.length ≤ sizeLine) (hn : ks.Nodup)
    (k : ∀ d h' tk o kvs, Fr h₀ L h' m → News h₀ L h' ((d, o) :: news) → (∀ p ∈ news, p.1 ≠ d) → (d == sysModules) = false → o.IsDictOf (intKind prog w) kvs → PyProof.V.FlatPairs PyData.int kvs (ks.map fun k => (PyData.int k, PyData.bool true)) → Q (.ref d) { s with heap := h', toks := tk }) :
    wpAny (model prog w) A (call (.type "dict") [.ref l]) Q E s := by
  obtain ⟨hl1, hg⟩ := ints_get hI
  refine call_dict_pairs (kvs := ks.map fun k => (k, Value.bool true)) hh (N _ hl).1 (by simpa using hsz) (by rw [hP.1, hl1]; simp) (fun j kv hj => ?_) fun h' tk st hd => ?_
  · rw [List.getElem?_map] at hj
    obtain ⟨k', e, rfl⟩ := Option.map_eq_some_iff.mp hj
    obtain ⟨t, ht⟩ := hg j k' e
    obtain ⟨T, q1, q2⟩ := hP.2 j _ ht
    exact ⟨T, t, _, q1, q2⟩
  · rw [merged_nil_of_nodup _ (by simpa [List.map_map, Function.comp_def] using hn)] at hd
    obtain ⟨o, e, ho⟩ := Heap.dictOf_iff.mp hd
    have hnone : s.heap.get? s.heap.objs.size = none := Heap.get?_none_of_le (Nat.le_refl _)
    exact k _ h' tk o _ (fr_stays F st) (news_new F N st hnone e) (news_ne N hnone) (F.notModules (modules_low hbig)) ho (flat_keys ks)
theorem stopP {s : Shared} {env : Env} {es : List Expr} {k : Nat} {p3 : Pos} {x : Str} {px : Pos} {iter : Expr} {scope : Scope} {pos : Pos} {Q : Value → Shared → Prop} (h : Stop (wpAny (model prog w) A (eval (.ListComp (.Tuple es k p3) [⟨.Name x px, iter, [], 0⟩] scope pos) env) Q E s)) : wpAny (model prog w) A (eval (.ListComp (.Tuple es k p3) [⟨.Name x px, iter, [], 0⟩] scope pos) env) Q E s := h
end
end Mine
end
section

namespace Mine
inductive Path (adj : Nat → List Nat) (rs : List Nat) : List Nat → Nat → Prop
  | root {r : Nat} : r ∈ rs → Path adj rs [r] r
  | step {p : List Nat} {x y : Nat} : Path adj rs p x → y ∈ adj x → Path adj rs (p ++ [y]) y
theorem Path.pos {adj : Nat → List Nat} {rs p : List Nat} {x : Nat} (h : Path adj rs p x) : 1 ≤ p.length := by
  cases h <;> simp
theorem Path.roots {adj : Nat → List Nat} {rs rs' p : List Nat} {x : Nat} (h : Path adj rs p x) (hr : ∀ r ∈ rs, r ∈ rs') : Path adj rs' p x := by
  induction h with
  | root h => exact .root (hr _ h)
  | step _ hy ih => exact .step ih hy

theorem nodup_le : ∀ (n : Nat) (l : List Nat), l.Nodup → (∀ x ∈ l, x < n) → l.length ≤ n
  | 0, l, _, hb => by
    cases l with
    | nil => exact Nat.le_refl _
    | cons a t => exact absurd (hb a (.head _)) (Nat.not_lt_zero _)
  | n + 1, l, hn, hb => by
    have h1 := nodup_le n (l.erase n) (hn.erase n) (fun x hx => by
      have hx' := (List.Nodup.mem_erase_iff hn).mp hx
      have := hb x hx'.2
      have := hx'.1
      omega)
    by_cases hm : n ∈ l
    · rw [List.length_erase_of_mem hm] at h1
      omega
    · rw [List.erase_of_not_mem hm] at h1
      omega

structure Bfs (n : Nat) (adj : Nat → List Nat) (rs q : List Nat) (k : Nat) (P : Nat → Option (List Nat)) : Prop where
  dom : ∀ x, x ∈ q ↔ ∃ p, P x = some p
  path : ∀ x p, P x = some p → Path adj rs p x
  root : ∀ r ∈ rs, P r = some [r]
  sorted : ∀ (i j x y : Nat) (px py : List Nat), i ≤ j → q[i]? = some x → q[j]? = some y → P x = some px → P y = some py → px.length ≤ py.length
  near : ∀ (a y : Nat) (pa py : List Nat), q[k]? = some a → P a = some pa → P y = some py → py.length ≤ pa.length + 1
  closed : ∀ (i x : Nat) (px : List Nat), i < k → q[i]? = some x → P x = some px → ∀ y ∈ adj x, ∃ py, P y = some py ∧ py.length ≤ px.length + 1
  fresh : ∃ q', q = rs ++ q' ∧ q'.Nodup ∧ ∀ x ∈ q', x < n ∧ x ∉ rs

theorem Bfs.bound {n : Nat} {adj : Nat → List Nat} {rs q : List Nat} {k : Nat} {P : Nat → Option (List Nat)} (B : Bfs n adj rs q k P) : q.length ≤ rs.length + n := by
  obtain ⟨q', rfl, hn, hb⟩ := B.fresh
  have := nodup_le n q' hn fun x hx => (hb x hx).1
  rw [List.length_append]; omega

theorem Bfs.start {n : Nat} {adj : Nat → List Nat} {rs : List Nat} {P : Nat → Option (List Nat)} (hP : ∀ x, P x = if x ∈ rs then some [x] else none) : Bfs n adj rs rs 0 P where
  dom := fun x => by rw [hP]; by_cases h : x ∈ rs <;> simp [h]
  path := fun x p e => by
    rw [hP] at e
    by_cases h : x ∈ rs
    · rw [if_pos h] at e; cases e; exact .root h
    · rw [if_neg h] at e; cases e
  root := fun r hr => by rw [hP, if_pos hr]
  sorted := fun i j x y px py _ _ _ e1 e2 => by
    rw [hP] at e1 e2
    split at e1
    · split at e2
      · cases e1; cases e2; exact Nat.le_refl _
      · cases e2
    · cases e1
  near := fun a y pa py _ e1 e2 => by
    rw [hP] at e1 e2
    split at e1
    · split at e2
      · cases e1; cases e2; simp
      · cases e2
    · cases e1
  closed := fun _ _ _ h => absurd h (Nat.not_lt_zero _)
  fresh := ⟨[], by simp, List.nodup_nil, fun _ h => nomatch h⟩

theorem Bfs.short {n : Nat} {adj : Nat → List Nat} {rs q : List Nat} {k x : Nat} {P : Nat → Option (List Nat)} {px p : List Nat} (B : Bfs n adj rs q k P) (hx : q[k]? = some x) (hp : P x = some px) (h : Path adj rs p x) : px.length ≤ p.length := by
  have key : ∀ {p : List Nat} {y : Nat}, Path adj rs p y → p.length < px.length → ∃ py, P y = some py ∧ py.length ≤ p.length := by
    intro p y h
    induction h with
    | root hr => intro _; exact ⟨_, B.root _ hr, by simp⟩
    | @step p z y hz hy ih =>
      intro hl
      rw [List.length_append, List.length_singleton] at hl
      obtain ⟨pz, e, hle⟩ := ih (by omega)
      obtain ⟨i, hi⟩ := List.getElem?_of_mem ((B.dom z).mpr ⟨pz, e⟩)
      have hik : i < k := by
        refine Nat.lt_of_not_le fun hki => ?_
        have := B.sorted k i x z px pz hki hx hi hp e
        omega
      obtain ⟨py, e', hle'⟩ := B.closed i z pz hik hi e y hy
      exact ⟨py, e', by rw [List.length_append, List.length_singleton]; omega⟩
  refine Nat.le_of_not_lt fun hlt => ?_
  obtain ⟨px', e, hle⟩ := key h hlt
  rw [hp] at e
  cases e
  omega
theorem Bfs.all {n : Nat} {adj : Nat → List Nat} {rs q : List Nat} {k x : Nat} {P : Nat → Option (List Nat)} {p : List Nat} (B : Bfs n adj rs q k P) (hk : q.length ≤ k) (h : Path adj rs p x) : x ∈ q := by
  induction h with
  | root hr => exact (B.dom _).mpr ⟨_, B.root _ hr⟩
  | @step p z y hz hy ih =>
    obtain ⟨pz, e⟩ := (B.dom z).mp ih
    obtain ⟨i, hi⟩ := List.getElem?_of_mem ih
    have hl : i < q.length := (List.getElem?_eq_some_iff.mp hi).1
    obtain ⟨py, e', _⟩ := B.closed i z pz (by omega) hi e y hy
    exact (B.dom y).mpr ⟨py, e'⟩

structure Mid (n : Nat) (adj : Nat → List Nat) (rs q : List Nat) (k : Nat) (P : Nat → Option (List Nat)) (here : Nat) (ph : List Nat) (done : List Nat) : Prop where
  at_ : q[k]? = some here
  ph_ : P here = some ph
  dom : ∀ x, x ∈ q ↔ ∃ p, P x = some p
  path : ∀ x p, P x = some p → Path adj rs p x
  root : ∀ r ∈ rs, P r = some [r]
  sorted : ∀ (i j x y : Nat) (px py : List Nat), i ≤ j → q[i]? = some x → q[j]? = some y → P x = some px → P y = some py → px.length ≤ py.length
  near : ∀ (y : Nat) (py : List Nat), P y = some py → py.length ≤ ph.length + 1
  closed : ∀ (i x : Nat) (px : List Nat), i < k → q[i]? = some x → P x = some px → ∀ y ∈ adj x, ∃ py, P y = some py ∧ py.length ≤ px.length + 1
  seen : ∀ y ∈ done, ∃ py, P y = some py
  fresh : ∃ q', q = rs ++ q' ∧ q'.Nodup ∧ ∀ x ∈ q', x < n ∧ x ∉ rs

theorem Bfs.mid {n : Nat} {adj : Nat → List Nat} {rs q : List Nat} {k here : Nat} {P : Nat → Option (List Nat)} {ph : List Nat} (B : Bfs n adj rs q k P) (hx : q[k]? = some here) (hp : P here = some ph) : Mid n adj rs q k P here ph [] :=
  ⟨hx, hp, B.dom, B.path, B.root, B.sorted, fun y py e => B.near here y ph py hx hp e, B.closed, fun _ h => (nomatch h), B.fresh⟩
theorem Mid.old {n : Nat} {adj : Nat → List Nat} {rs q : List Nat} {k here y : Nat} {P : Nat → Option (List Nat)} {ph done py : List Nat} (M : Mid n adj rs q k P here ph done) (hy : P y = some py) : Mid n adj rs q k P here ph (done ++ [y]) :=
  have hs : ∀ z ∈ done ++ [y], ∃ pz, P z = some pz := fun z hz => by
    rcases List.mem_append.mp hz with hz | hz
    · exact M.seen z hz
    · rw [List.mem_singleton.mp hz]; exact ⟨py, hy⟩
  ⟨M.at_, M.ph_, M.dom, M.path, M.root, M.sorted, M.near, M.closed, hs, M.fresh⟩
theorem Mid.new {n : Nat} {adj : Nat → List Nat} {rs q : List Nat} {k here y : Nat} {P P' : Nat → Option (List Nat)} {ph done : List Nat} (M : Mid n adj rs q k P here ph done) (hy : P y = none) (ha : y ∈ adj here) (hn : y < n)
    (hP : ∀ x, P' x = if x = y then some (ph ++ [y]) else P x) : Mid n adj rs (q ++ [y]) k P' here ph (done ++ [y]) := by
  have hne : here ≠ y := fun e => by have := M.ph_; rw [e, hy] at this; cases this
  have old : ∀ {x : Nat} {px : List Nat}, P x = some px → P' x = some px := fun {x px} e => by
    rw [hP]
    by_cases h : x = y
    · rw [h, hy] at e; cases e
    · rw [if_neg h]; exact e
  have cut : ∀ {x : Nat} {px : List Nat}, P' x = some px → (x = y ∧ px = ph ++ [y]) ∨ P x = some px := fun {x px} e => by
    rw [hP] at e
    by_cases h : x = y
    · rw [if_pos h] at e; cases e; exact .inl ⟨h, rfl⟩
    · rw [if_neg h] at e; exact .inr e
  have nq : y ∉ q := fun h => by
    obtain ⟨p, e⟩ := (M.dom y).mp h
    rw [hy] at e; cases e
  have ix : ∀ {i x : Nat}, (q ++ [y])[i]? = some x → q[i]? = some x ∨ (i = q.length ∧ x = y) := fun {i x} e => by
    by_cases h : i < q.length
    · rw [List.getElem?_append_left h] at e; exact .inl e
    · rw [List.getElem?_append_right (Nat.le_of_not_lt h)] at e
      have hl := (List.getElem?_eq_some_iff.mp e).1
      rw [List.length_singleton] at hl
      have hi : i = q.length := by omega
      subst hi
      rw [Nat.sub_self] at e
      cases e
      exact .inr ⟨rfl, rfl⟩
  have hkl : k < q.length := (List.getElem?_eq_some_iff.mp M.at_).1
  refine ⟨by rw [List.getElem?_append_left hkl]; exact M.at_, old M.ph_, fun x => ?_, fun x p e => ?_, fun r hr => old (M.root r hr), fun i j x z px pz hij hi hj ex ez => ?_, fun z pz e => ?_, fun i x px hik hi ex z hz => ?_, fun z hz => ?_, ?_⟩
  · rw [List.mem_append, List.mem_singleton, M.dom x]
    constructor
    · rintro (⟨p, e⟩ | rfl)
      · exact ⟨p, old e⟩
      · exact ⟨ph ++ [x], by rw [hP, if_pos rfl]⟩
    · rintro ⟨p, e⟩
      rcases cut e with ⟨h, _⟩ | h
      · exact .inr h
      · exact .inl ⟨p, h⟩
  · rcases cut e with ⟨rfl, rfl⟩ | h
    · exact .step (M.path _ _ M.ph_) ha
    · exact M.path _ _ h
  · rcases ix hj with hj' | ⟨hj', rfl⟩
    · rcases ix hi with hi' | ⟨hi', rfl⟩
      · rcases cut ex with ⟨rfl, _⟩ | ex'
        · exact absurd (List.mem_of_getElem? hi') nq
        · rcases cut ez with ⟨rfl, _⟩ | ez'
          · exact absurd (List.mem_of_getElem? hj') nq
          · exact M.sorted i j x z px pz hij hi' hj' ex' ez'
      · have := (List.getElem?_eq_some_iff.mp hj').1
        omega
    · have ez' : pz = ph ++ [z] := by
        rcases cut ez with ⟨_, h⟩ | h
        · exact h
        · rw [hy] at h; cases h
      subst ez'
      rw [List.length_append, List.length_singleton]
      rcases cut ex with ⟨_, rfl⟩ | ex'
      · rw [List.length_append, List.length_singleton]; exact Nat.le_refl _
      · exact M.near x px ex'
  · rcases cut e with ⟨_, rfl⟩ | h
    · rw [List.length_append, List.length_singleton]; exact Nat.le_refl _
    · exact M.near z pz h
  · have hi' : q[i]? = some x := by
      rcases ix hi with h | ⟨h, _⟩
      · exact h
      · omega
    have ex' : P x = some px := by
      rcases cut ex with ⟨rfl, _⟩ | h
      · exact absurd (List.mem_of_getElem? hi') nq
      · exact h
    obtain ⟨py, e, hl⟩ := M.closed i x px hik hi' ex' z hz
    exact ⟨py, old e, hl⟩
  · rcases List.mem_append.mp hz with hz | hz
    · obtain ⟨py, e⟩ := M.seen z hz
      exact ⟨py, old e⟩
    · rw [List.mem_singleton.mp hz]; exact ⟨ph ++ [y], by rw [hP, if_pos rfl]⟩
  · obtain ⟨q', rfl, hnd, hb⟩ := M.fresh
    refine ⟨q' ++ [y], by rw [List.append_assoc], ?_, fun x hx => ?_⟩
    · rw [List.nodup_append]
      refine ⟨hnd, by simp, fun a haq b hb' e => ?_⟩
      rw [List.mem_singleton] at hb'
      subst hb' e
      exact nq (List.mem_append.mpr (.inr haq))
    · rcases List.mem_append.mp hx with hx | hx
      · exact hb x hx
      · rw [List.mem_singleton.mp hx]
        exact ⟨hn, fun h => nq (List.mem_append.mpr (.inl h))⟩
theorem Mid.done {n : Nat} {adj : Nat → List Nat} {rs q : List Nat} {k here : Nat} {P : Nat → Option (List Nat)} {ph done : List Nat} (M : Mid n adj rs q k P here ph done) (hd : ∀ y ∈ adj here, y ∈ done) : Bfs n adj rs q (k + 1) P := by
  refine ⟨M.dom, M.path, M.root, M.sorted, fun a y pa py ha ea ey => ?_, fun i x px hi hx ex y hy => ?_, M.fresh⟩
  · have h1 := M.sorted k (k + 1) here a ph pa (Nat.le_succ _) M.at_ ha M.ph_ ea
    have h2 := M.near y py ey
    omega
  · by_cases h : i < k
    · exact M.closed i x px h hx ex y hy
    · have hi' : i = k := by omega
      subst hi'
      have : x = here := by have := M.at_; rw [hx] at this; exact Option.some.inj this
      subst this
      have : px = ph := by have := M.ph_; rw [ex] at this; exact Option.some.inj this
      subst this
      obtain ⟨py, e⟩ := M.seen y (hd y hy)
      exact ⟨py, e, M.near y py e⟩
theorem Path.prefix_ {adj : Nat → List Nat} {rs p : List Nat} {x y : Nat} (h : Path adj rs p x) (hy : y ∈ p) : ∃ p', Path adj rs p' y ∧ p'.length ≤ p.length := by
  induction h with
  | root hr =>
    rw [List.mem_singleton.mp hy]
    exact ⟨_, .root hr, Nat.le_refl _⟩
  | @step p x z hp hz ih =>
    rcases List.mem_append.mp hy with h | h
    · obtain ⟨p', h1, h2⟩ := ih h
      exact ⟨p', h1, by rw [List.length_append]; omega⟩
    · rw [List.mem_singleton.mp h]
      exact ⟨p ++ [z], .step hp hz, Nat.le_refl _⟩
theorem Path.cut {adj : Nat → List Nat} {rs p : List Nat} {x : Nat} (h : Path adj rs p x) (hn : ¬ p.Nodup) : ∃ p', Path adj rs p' x ∧ p'.length < p.length := by
  induction h with
  | root hr => exact absurd (by simp) hn
  | @step p x z hp hz ih =>
    by_cases hd : p.Nodup
    · have hm : z ∈ p := by
        refine Classical.byContradiction fun hm => hn ?_
        rw [List.nodup_append]
        refine ⟨hd, by simp, fun a ha b hb e => ?_⟩
        rw [List.mem_singleton] at hb
        subst hb e
        exact hm ha
      obtain ⟨p', h1, h2⟩ := hp.prefix_ hm
      exact ⟨p', h1, by rw [List.length_append, List.length_singleton]; omega⟩
    · obtain ⟨p', h1, h2⟩ := ih hd
      exact ⟨p' ++ [z], .step h1 hz, by simp only [List.length_append, List.length_singleton]; omega⟩
theorem Path.nodup {adj : Nat → List Nat} {rs p : List Nat} {x : Nat} (h : Path adj rs p x) (hm : ∀ p', Path adj rs p' x → p.length ≤ p'.length) : p.Nodup := by
  refine Classical.byContradiction fun hn => ?_
  obtain ⟨p', h1, h2⟩ := h.cut hn
  have := hm p' h1
  omega
theorem Path.lt {adj : Nat → List Nat} {rs p : List Nat} {x n : Nat} (h : Path adj rs p x) (hr : ∀ r ∈ rs, r < n) (ho : ∀ i, i < n → ∀ j ∈ adj i, j < n) : x < n ∧ ∀ y ∈ p, y < n := by
  induction h with
  | root h => exact ⟨hr _ h, fun y hy => by rw [List.mem_singleton.mp hy]; exact hr _ h⟩
  | step _ hz ih =>
    have := ho _ ih.1 _ hz
    refine ⟨this, fun y hy => ?_⟩
    rcases List.mem_append.mp hy with h | h
    · exact ih.2 y h
    · rw [List.mem_singleton.mp h]; exact this
theorem Path.short4 {adj : Nat → List Nat} {rs p : List Nat} {x n : Nat} (h : Path adj rs p x) (hr : ∀ r ∈ rs, r < n) (ho : ∀ i, i < n → ∀ j ∈ adj i, j < n) (hm : ∀ p', Path adj rs p' x → p.length ≤ p'.length) : p.length ≤ n :=
  nodup_le n p (h.nodup hm) (h.lt hr ho).2
theorem Path.inv {adj : Nat → List Nat} {rs p : List Nat} {x : Nat} (h : Path adj rs p x) : (p = [x] ∧ x ∈ rs) ∨ ∃ p' y, p = p' ++ [x] ∧ Path adj rs p' y ∧ x ∈ adj y := by
  cases h with
  | root h => exact .inl ⟨rfl, h⟩
  | step h hy => exact .inr ⟨_, _, rfl, h, hy⟩
theorem Path.shapes {adj : Nat → List Nat} {rs p : List Nat} {x : Nat} (h : Path adj rs p x) (hl : p.length ≤ 4) :
    (p = [x] ∧ x ∈ rs) ∨ (∃ a, p = [a, x] ∧ a ∈ rs ∧ x ∈ adj a) ∨ (∃ a b, p = [a, b, x] ∧ a ∈ rs ∧ b ∈ adj a ∧ x ∈ adj b) ∨ ∃ a b c, p = [a, b, c, x] ∧ a ∈ rs ∧ b ∈ adj a ∧ c ∈ adj b ∧ x ∈ adj c := by
  rcases h.inv with h1 | ⟨p1, c, rfl, h1, hx⟩
  · exact .inl h1
  · rcases h1.inv with ⟨rfl, h2⟩ | ⟨p2, b, rfl, h2, hc⟩
    · exact .inr (.inl ⟨c, rfl, h2, hx⟩)
    · rcases h2.inv with ⟨rfl, h3⟩ | ⟨p3, a, rfl, h3, hb⟩
      · exact .inr (.inr (.inl ⟨b, c, rfl, h3, hc, hx⟩))
      · rcases h3.inv with ⟨rfl, h4⟩ | ⟨p4, z, rfl, h4, ha⟩
        · exact .inr (.inr (.inr ⟨a, b, c, rfl, h4, hb, hc, hx⟩))
        · exfalso
          have := h4.pos
          simp only [List.length_append, List.length_singleton] at hl
          omega
end Mine
end
section

namespace Mine
def Dist (adj : Nat → List Nat) (rs : List Nat) (x : Nat) (k : Int) : Prop :=
  (k = 99 ∧ ∀ p, ¬ Path adj rs p x) ∨ (∃ p, Path adj rs p x ∧ (∀ p', Path adj rs p' x → p.length ≤ p'.length) ∧ k + 1 = p.length ∧ k ≠ 99)
theorem least_path {adj : Nat → List Nat} {rs : List Nat} {x : Nat} : ∀ (k : Nat) {p : List Nat}, p.length ≤ k → Path adj rs p x → ∃ p0, Path adj rs p0 x ∧ (∀ p', Path adj rs p' x → p0.length ≤ p'.length) ∧ p0.length ≤ p.length
  | 0, p, hk, h => by have := h.pos; omega
  | k + 1, p, hk, h => by
    by_cases hm : ∀ p', Path adj rs p' x → p.length ≤ p'.length
    · exact ⟨p, h, hm, Nat.le_refl _⟩
    · obtain ⟨p1, h1⟩ := Classical.not_forall.mp hm
      obtain ⟨h1, h2⟩ := Classical.not_imp.mp h1
      obtain ⟨p0, a, b, c⟩ := least_path k (p := p1) (by omega) h1
      exact ⟨p0, a, b, by omega⟩
structure Graph4 (n : Nat) (adj : Nat → List Nat) : Prop where
  le : n ≤ 4
  out : ∀ i, i < n → ∀ j ∈ adj i, j < n
theorem Dist.none_ {adj : Nat → List Nat} {rs : List Nat} {x : Nat} (h : ∀ p, ¬ Path adj rs p x) : Dist adj rs x 99 := .inl ⟨rfl, h⟩
theorem Dist.of {n : Nat} {adj : Nat → List Nat} {rs : List Nat} {x : Nat} {k : Int} (G : Graph4 n adj) (hr : ∀ r ∈ rs, r < n) (h1 : ∀ p, Path adj rs p x → k + 1 ≤ p.length) (h2 : k < 99 → ∃ p, Path adj rs p x ∧ (p.length : Int) ≤ k + 1) (h3 : k ≤ 99) : Dist adj rs x k := by
  by_cases hk : k < 99
  · obtain ⟨p, hp, hl⟩ := h2 hk
    obtain ⟨p0, a, b, c⟩ := least_path p.length (Nat.le_refl _) hp
    have := h1 p0 a
    exact .inr ⟨p0, a, b, by omega, by omega⟩
  · have hk9 : k = 99 := by omega
    subst hk9
    refine .inl ⟨rfl, fun p hp => ?_⟩
    obtain ⟨p0, a, b, c⟩ := least_path p.length (Nat.le_refl _) hp
    have := a.short4 hr G.out b
    have := h1 p0 a
    have := G.le
    omega
theorem Dist.lo {adj : Nat → List Nat} {rs : List Nat} {x : Nat} {k : Int} (h : Dist adj rs x k) : ∀ p, Path adj rs p x → k + 1 ≤ p.length := by
  intro p hp
  rcases h with ⟨_, h⟩ | ⟨p0, a, b, c, d⟩
  · exact absurd hp (h p)
  · have := b p hp; omega
theorem Dist.way {adj : Nat → List Nat} {rs : List Nat} {x : Nat} {k : Int} (h : Dist adj rs x k) (hk : k ≠ 99) : ∃ p, Path adj rs p x ∧ (p.length : Int) = k + 1 := by
  rcases h with ⟨h, _⟩ | ⟨p0, a, b, c, d⟩
  · exact absurd h hk
  · exact ⟨p0, a, c.symm⟩
theorem Dist.bound {n : Nat} {adj : Nat → List Nat} {rs : List Nat} {x : Nat} {k : Int} (G : Graph4 n adj) (hr : ∀ r ∈ rs, r < n) (h : Dist adj rs x k) : 0 ≤ k ∧ (k = 99 ∨ k + 1 ≤ n) := by
  rcases h with ⟨h, _⟩ | ⟨p0, a, b, c, d⟩
  · omega
  · have := a.short4 hr G.out b
    have := a.pos
    omega
theorem Path.join {adj : Nat → List Nat} {rs p q : List Nat} {x y e : Nat} (hp : Path adj rs p x) (he : e ∈ adj x) (hq : Path adj [e] q y) : Path adj rs (p ++ q) y := by
  induction hq with
  | root h => rw [List.mem_singleton.mp h]; exact .step hp he
  | step _ hy ih => rw [← List.append_assoc]; exact .step ih hy
theorem Path.join0 {adj : Nat → List Nat} {rs p q : List Nat} {x y : Nat} (hp : Path adj rs p x) (hq : Path adj [x] q y) : ∃ r, Path adj rs r y ∧ r.length + 1 = p.length + q.length := by
  induction hq with
  | root h => rw [List.mem_singleton.mp h]; exact ⟨p, hp, rfl⟩
  | step _ hy ih =>
    obtain ⟨r, h1, h2⟩ := ih
    refine ⟨_, .step h1 hy, ?_⟩
    simp only [List.length_append, List.length_cons, List.length_nil]
    omega
theorem Path.mono {adj adj' : Nat → List Nat} {rs p : List Nat} {x : Nat} (h : Path adj rs p x) (hm : ∀ i, ∀ j ∈ adj i, j ∈ adj' i) : Path adj' rs p x := by
  induction h with
  | root h => exact .root h
  | step _ hy ih => exact .step ih (hm _ _ hy)
theorem Path.by_link {adj adj' : Nat → List Nat} {rs p : List Nat} {x b e : Nat} (hn : ∀ i, ∀ j ∈ adj' i, j ∈ adj i ∨ (i = b ∧ j = e)) (h : Path adj' rs p x) :
    (∃ q, Path adj rs q x ∧ q.length ≤ p.length) ∨ (∃ q1 q2, Path adj rs q1 b ∧ Path adj [e] q2 x ∧ q1.length + q2.length ≤ p.length) := by
  induction h with
  | root h => exact .inl ⟨_, .root h, Nat.le_refl _⟩
  | @step p x y hp hy ih =>
    simp only [List.length_append, List.length_cons, List.length_nil]
    rcases hn _ _ hy with hy | ⟨rfl, rfl⟩
    · rcases ih with ⟨q, h1, h2⟩ | ⟨q1, q2, h1, h2, h3⟩
      · exact .inl ⟨_, .step h1 hy, by simp only [List.length_append, List.length_cons, List.length_nil]; omega⟩
      · exact .inr ⟨q1, _, h1, .step h2 hy, by simp only [List.length_append, List.length_cons, List.length_nil]; omega⟩
    · rcases ih with ⟨q, h1, h2⟩ | ⟨q1, q2, h1, h2, h3⟩
      · exact .inr ⟨q, _, h1, .root (List.mem_singleton.mpr rfl), by simp only [List.length_cons, List.length_nil]; omega⟩
      · exact .inr ⟨q1, _, h1, .root (List.mem_singleton.mpr rfl), by have := h2.pos; simp only [List.length_cons, List.length_nil]; omega⟩
theorem Dist.later {n : Nat} {adj adj' : Nat → List Nat} {f : Nat → Nat → Int} {b e : Nat} (G : Graph4 n adj') (G0 : Graph4 n adj) (hD : ∀ i j, i < n → j < n → Dist adj [i] j (f i j)) (hb : b < n) (he : e < n)
    (hm : ∀ i, ∀ j ∈ adj i, j ∈ adj' i) (hn : ∀ i, ∀ j ∈ adj' i, j ∈ adj i ∨ (i = b ∧ j = e)) (hnew : e ∈ adj' b) : ∀ i j, i < n → j < n → Dist adj' [i] j (min (min 99 (f i j)) (f i b + 1 + f e j)) := by
  intro i j hi hj
  have one : ∀ a, a < n → ∀ r ∈ [a], r < n := fun a ha r hr => by rw [List.mem_singleton.mp hr]; exact ha
  have d1 := hD i j hi hj
  have d2 := hD i b hi hb
  have d3 := hD e j he hj
  have b1 := d1.bound G0 (one i hi)
  have b2 := d2.bound G0 (one i hi)
  have b3 := d3.bound G0 (one e he)
  have n4 := G.le
  refine Dist.of G (one i hi) (fun p hp => ?_) (fun hk => ?_) (by omega)
  · rcases hp.by_link hn with ⟨q, h1, h2⟩ | ⟨q1, q2, h1, h2, h3⟩
    · have := d1.lo q h1
      omega
    · have := d2.lo q1 h1
      have := d3.lo q2 h2
      omega
  · by_cases h9 : f i j < 99
    · by_cases hs : f i j ≤ f i b + 1 + f e j
      · obtain ⟨p, h1, h2⟩ := d1.way (by omega)
        exact ⟨p, h1.mono hm, by omega⟩
      · obtain ⟨p, h1, h2⟩ := d2.way (by omega)
        obtain ⟨q, h3, h4⟩ := d3.way (by omega)
        exact ⟨p ++ q, (h1.mono hm).join hnew (h3.mono hm), by simp only [List.length_append]; omega⟩
    · obtain ⟨p, h1, h2⟩ := d2.way (by omega)
      obtain ⟨q, h3, h4⟩ := d3.way (by omega)
      exact ⟨p ++ q, (h1.mono hm).join hnew (h3.mono hm), by simp only [List.length_append]; omega⟩
theorem Path.two {adj : Nat → List Nat} {a b : Nat} {p : List Nat} {x : Nat} (h : Path adj [a, b] p x) : Path adj [a] p x ∨ Path adj [b] p x := by
  induction h with
  | root h =>
    simp only [List.mem_cons, List.not_mem_nil, or_false] at h
    rcases h with rfl | rfl
    · exact .inl (.root (List.mem_singleton.mpr rfl))
    · exact .inr (.root (List.mem_singleton.mpr rfl))
  | step _ hy ih =>
    rcases ih with h | h
    · exact .inl (.step h hy)
    · exact .inr (.step h hy)
theorem Dist.two {n : Nat} {adj : Nat → List Nat} {a b x : Nat} {k l : Int} (G : Graph4 n adj) (ha : a < n) (hb : b < n) (h1 : Dist adj [a] x k) (h2 : Dist adj [b] x l) : Dist adj [a, b] x (min k l) := by
  have one : ∀ a, a < n → ∀ r ∈ [a], r < n := fun a ha r hr => by rw [List.mem_singleton.mp hr]; exact ha
  have b1 := h1.bound G (one a ha)
  have b2 := h2.bound G (one b hb)
  have n4 := G.le
  refine Dist.of G (fun r hr => ?_) (fun p hp => ?_) (fun hk => ?_) (by omega)
  · simp only [List.mem_cons, List.not_mem_nil, or_false] at hr
    rcases hr with rfl | rfl <;> assumption
  · rcases hp.two with h | h
    · have := h1.lo p h; omega
    · have := h2.lo p h; omega
  · by_cases hs : k ≤ l
    · obtain ⟨p, q1, q2⟩ := h1.way (by omega)
      exact ⟨p, q1.roots (by simp), by omega⟩
    · obtain ⟨p, q1, q2⟩ := h2.way (by omega)
      exact ⟨p, q1.roots (by simp), by omega⟩
theorem Dist.triangle {n : Nat} {adj : Nat → List Nat} {a b c : Nat} {k l m : Int} (G : Graph4 n adj) (ha : a < n) (hb : b < n) (h1 : Dist adj [a] c k) (h2 : Dist adj [a] b l) (h3 : Dist adj [b] c m) : k ≤ l + m := by
  have one : ∀ a, a < n → ∀ r ∈ [a], r < n := fun a ha r hr => by rw [List.mem_singleton.mp hr]; exact ha
  have b1 := h1.bound G (one a ha)
  have b2 := h2.bound G (one a ha)
  have b3 := h3.bound G (one b hb)
  have n4 := G.le
  by_cases hl : l = 99
  · omega
  · by_cases hm : m = 99
    · omega
    · obtain ⟨p, q1, q2⟩ := h2.way hl
      obtain ⟨q, q3, q4⟩ := h3.way hm
      obtain ⟨r, q5, q6⟩ := q1.join0 q3
      have := h1.lo r q5
      omega
theorem Dist.first {n : Nat} {i j : Nat} : Dist (fun _ => []) [i] j (if i = j then 0 else 99) := by
  by_cases h : i = j
  · subst h
    rw [if_pos rfl]
    exact .inr ⟨[i], .root (List.mem_singleton.mpr rfl), fun p' hp => by have := hp.pos; simpa using this, rfl, by decide⟩
  · rw [if_neg h]
    refine .inl ⟨rfl, fun p hp => ?_⟩
    cases hp with
    | root hr => exact h (List.mem_singleton.mp hr).symm
    | step _ hy => cases hy
end Mine
end
section
open PySem PySem.W PyProof.Rows PySem.Calls PySem.Spec
namespace Mine
theorem kl_last_app : ∀ (p : List Value) (y : Value), kl_last (p ++ [y]) = some (p, y)
  | [], _ => rfl
  | x :: r, y => by
    show (match kl_last (r ++ [y]) with | some (p, y) => some (x :: p, y) | none => some ([], x)) = _
    rw [kl_last_app r y]
theorem popE {prog : Program} {w : World} {A : Around} {E : Value → Shared → Prop} {s : Shared} {h₀ : Heap} {L D : Addr} {m : Str → Option Value} {news news' : List (Addr × Obj)} {n : Nat} {v : Value} {vs : List Value} {Q : Value → Shared → Prop}
    (F : Fr h₀ L s.heap m) (N : News h₀ L s.heap news) (U : Upd D (listOf (vs ++ [v]).toArray n) (listOf vs.toArray (n + 1)) news news') (hz : vs.length ≤ 10)
    (h : ∀ h', Fr h₀ L h' m → News h₀ L h' news' → Q v { s with heap := h' }) : wpAny (model prog w) A (call (.builtin "list.pop") [.ref D]) Q E s :=
  kl_pop F N (kl_last_app vs v) U (by rw [PySem.sizeLine_eq]; simp; omega) h
theorem lenE {prog : Program} {w : World} {A : Around} {E : Value → Shared → Prop} {s : Shared} {h₀ : Heap} {L D : Addr} {news : List (Addr × Obj)} {n : Nat} {v : Value} {vs : List Value} {Q : Value → Shared → Prop}
    (N : News h₀ L s.heap news) (hm : (D, listOf (vs ++ [v]).toArray n) ∈ news) (hf : vs.length ≤ 10) (h : Q (.int ((vs.length : Int) + 1) (s.toks + 1)) { s with toks := s.toks + 1 + 1 }) :
    wpAny (model prog w) A (call (.builtin "len") [.ref D]) Q E s := len1 N hm (by simp; omega) (by simpa using h)
theorem ite2 {α : Type} {p : Prop} [Decidable p] {a b c : α} : (if p then a else if p then b else c) = if p then a else c := by split <;> rfl
theorem mpart (x : Str) (m : Str → Option Value) : m = fun y => if y = x then m x else m y := by
  funext y; split
  · next h => rw [h]
  · rfl
theorem app_nil {α : Type} {fs : List α} {x : α} (h : fs ++ [] = [x]) : fs = [x] := (List.append_nil fs).symm.trans h
theorem app_mid {α : Type} {fs bs : List α} {x y : α} (h : fs ++ y :: bs = [x]) : (fs ++ [y]) ++ bs = [x] := by simpa using h
theorem app_len {α : Type} {fs bs : List α} {x : α} (h : fs ++ bs = [x]) : fs.length ≤ 1000 := by have := congrArg List.length h; simp at this; omega
inductive Wk (w : World) (h : Heap) (n : Addr) : List Value → List Value → Nat → Prop
  | nil : Wk w h n [] [] 0
  | str {u : Str} {t : Tok} {ws bs : List Value} {k : Nat} : ws.length ≤ 10 → Wk w h n ws bs k → Wk w h n (ws ++ [.str u t]) bs (k + 1)
  | nam {a : Addr} {ws bs : List Value} {k : Nat} : ws.length ≤ 10 → NameAt w h n a → Wk w h n ws bs k → Wk w h n (ws ++ [.ref n]) (.ref n :: bs) (k + 1)
  | tup {q : Addr} {its ws bs : List Value} {k : Nat} : ws.length ≤ 10 → its.length ≤ 10 → h.get? q = some (tupOf its) → its.length ≠ 0 → Wk w h n (ws ++ its) bs k → Wk w h n (ws ++ [.ref q]) bs (k + 1)
theorem Wk.start {w : World} {h : Heap} {q q1 q2 n a : Addr} {t2 t3 t4 : Tok}
    (h3 : h.get? q = some (tupOf [.str (Str.ofString "cat") t2, .ref q1, .ref q2]))
    (h4 : h.get? q1 = some (tupOf [.str (Str.ofString "cursor") t3, .ref n])) (h5 : h.get? q2 = some (tupOf [.str (Str.ofString "arb") t4]))
    (hnm : NameAt w h n a) : Wk w h n [.ref q] [.ref n] 7 :=
  .tup (ws := []) (Nat.zero_le _) (Nat.le_of_ble_eq_true rfl) h3 (Nat.succ_ne_zero 2) (.tup (ws := [_, _]) (Nat.le_of_ble_eq_true rfl) (Nat.le_of_ble_eq_true rfl) h5 (Nat.succ_ne_zero 0) (.str (ws := [_, _]) (Nat.le_of_ble_eq_true rfl)
    (.tup (ws := [_]) (Nat.le_of_ble_eq_true rfl) (Nat.le_of_ble_eq_true rfl) h4 (Nat.succ_ne_zero 1) (.nam (ws := [_, _]) (Nat.le_of_ble_eq_true rfl) hnm (.str (ws := [_]) (Nat.le_of_ble_eq_true rfl) (.str (ws := []) (Nat.zero_le _) .nil))))))
inductive TpJ (w : World) (g : Heap) (a : Addr) (wa fa : Addr) (M0 : Str → Option Value) (n : Nat) (m : Str → Option Value) (nx : List (Addr × Obj)) : Prop
  | mk (vv : Option Value) (fs ws bs : List Value) (c1 c2 : Nat) (e1 : m = fun y => if y = Str.ofString "part" then vv else M0 y) (e2 : nx = [(wa, listOf ws.toArray c1), (fa, listOf fs.toArray c2)]) (e3 : Wk w g a ws bs n) (e4 : fs ++ bs = [.ref a]) : TpJ w g a wa fa M0 n m nx
theorem tp_start {w : World} {g h : Heap} {a q wa fa L : Addr} {m : Str → Option Value} {k : Nat} (_ : Fr g L h m) (hW : Wk w g a [.ref q] [.ref a] k) :
    TpJ w g a wa fa m k m [(wa, listOf #[.ref q] 0), (fa, listOf #[] 0)] := ⟨_, [], _, _, 0, 0, mpart _ m, rfl, hW, rfl⟩
theorem tp_turn {w : World} {g : Heap} {a : Addr} {wa fa L : Addr} {M0 m' : Str → Option Value} {h' : Heap} {news : List (Addr × Obj)} {s₁ : Shared} {Q : Flow → Shared → Prop} {n tk : Nat} {vv : Option Value} {fs ws bs : List Value} {c1 c2 k : Nat}
    (F : Fr g L h' m') (N : News g L h' news) (hm : ∀ y, m' y = if y = Str.ofString "part" then vv else M0 y) (h1 : (wa, listOf ws.toArray c1) ∈ news) (h2 : (fa, listOf fs.toArray c2) ∈ news)
    (hS : Wk w g a ws bs k) (hP : fs ++ bs = [.ref a]) (hk : k < n) :
    WhileStep2 g L s₁ (TpJ w g a wa fa M0) Q n .next { s₁ with heap := h', toks := tk } := by
  refine ⟨h', tk, m', [(wa, listOf ws.toArray c1), (fa, listOf fs.toArray c2)], k, rfl, F, ?_, hk, vv, fs, ws, bs, c1, c2, funext hm, rfl, hS, hP⟩
  intro p hp
  rcases List.mem_cons.mp hp with rfl | hp
  · exact N _ h1
  · rw [List.mem_singleton.mp hp]; exact N _ h2
section
local macro_rules | `(tactic| k_inst) => `(tactic| (refine' Mine.inst_frozen ?F ?h1 ?h2; (case F => k_asm); (case h1 => assumption); (case h2 => assumption)))

theorem things_node {w : World} {s : Shared} {q q1 q2 n a : Addr} {t2 t3 t4 : Tok} {mean : ExcName → Option Value} {mg mb : Str → Option Value}
    (X : (Mine.hd.heap_1 w.params).In s.heap) (T : Top Mine.view (looseW Mine.view [Str.ofString "SnobolError"]) mean mg mb s.heap)
    (h3 : s.heap.get? q = some (tupOf [.str (Str.ofString "cat") t2, .ref q1, .ref q2]))
    (h4 : s.heap.get? q1 = some (tupOf [.str (Str.ofString "cursor") t3, .ref n])) (h5 : s.heap.get? q2 = some (tupOf [.str (Str.ofString "arb") t4]))
    (hnm : NameAt w s.heap n a) :
    wpAny (model PySem.Challenge.rw_sj0194_01.row.prog w) (AA 700 700) (call (.ref 352) [.ref q]) (ListRes s [.ref n]) (fun _ _ => False) s := by
  revert T X; k_fill; intro X T
  have hW := Wk.start h3 h4 h5 hnm
  clear h3 h4 h5 hnm
  k_with_none
  w_top off
  k_with "call builtin:list.extend" => (refine extendT (by k_asm) (by k_asm) (by assumption) (by assumption) (by k_upd) (by omega) ?_; intro h' F' N')
  k_with "exec While Compare cons nil" => refine Mine.stop ?_
  k_with "call builtin:len" => (first | refine lenE (by k_asm) (by k_mem) (by assumption) ?_ | refine len1 (by k_asm) (by k_mem) (Nat.zero_le _) ?_)
  k_with "call builtin:list.pop" => (refine popE (by k_asm) (by k_asm) (by k_upd) (by assumption) ?_; intro h' F' N')
  k_with "call builtin:list.append" => (refine append1 (by k_asm) (by k_asm) (by k_upd) (by assumption) ?_; intro h' F' N')
  k_with "call builtin:isinstance" => (refine' kia_tup kitx_tuple ?zX ?zc ?zp ?ze ?zn ?_; (case zX => k_in); (case zc => exact ⟨_, Fr.keep (by k_asm) _ _ (by assumption), rfl⟩); (case zp => kit_tp); (case ze => kit_is); (case zn => kit_nb); k_whole; intro _)
  refine wpAny_call ?_
  refine' enter_fn (binds := [(Str.ofString "node", .ref q)]) ?k4 ?k5 ?k6 ?k7 ?k8 ?k9 ?kB ?_ ?c2 ?c3 ?c4 ?c5
  case k4 => exact X
  case k5 => exact T
  case k6 => k_is
  case k7 => k_is
  case k8 => decide
  case k9 => exact BindsTo.of_eq rfl
  case c5 => decide
  case kB => exact locs rfl
  case c2 => exact rfl
  case c3 => exact rfl
  case c4 => exact rfl
  k_whole
  intro L' h' F' N'
  (try dsimp only)
  (try k_fold)
  k_steps
  rename Fr _ _ _ _ => F0
  rename News _ _ _ _ => N0
  rename_i fa _ _ wa _ hlt D _ hlt2 _ _ _
  have hwf : wa ≠ fa := (Nat.ne_of_lt hlt).symm
  clear hlt2
  change wpAny _ _ _ _ _ _
  refine While_inv2 _ F0 (news_sub N0 (fun p hp => .tail _ hp)) (tp_start (wa := wa) (fa := fa) F0 hW) ?turn PassesOwn.never
  clear F0 N0 hW
  rintro k m₁ nx h1 tk1 F1 N1 ⟨vv, fs, ws, bs, c1, c2, rfl, rfl, hS, hP⟩
  cases hS with
  | nil =>
    k_steps
    cases app_nil hP
    exact list_end (by assumption) (by assumption) (by k_mem)
  | str hz hS =>
    k_steps
    exact tp_turn (by assumption) (by assumption) (fun y => ite2) (by k_mem) (by k_mem) hS hP (Nat.lt_succ_self _)
  | nam hz hnm hS =>
    have hF := app_len hP
    obtain ⟨d', u1, u2, u3, u4, u5, h6, h7⟩ := hnm
    k_steps
    exact tp_turn (by assumption) (by assumption) (fun y => ite2) (by k_mem) (by k_mem) hS (app_mid hP) (Nat.lt_succ_self _)
  | tup hz hi hq hi0 hS =>
    k_steps
    exact tp_turn (by assumption) (by assumption) (fun y => ite2) (by k_mem) (by k_mem) hS hP (Nat.lt_succ_self _)
theorem things_pat {w : World} {s : Shared} {p n a : Addr} {mean : ExcName → Option Value} {mg mb : Str → Option Value}
    (X : (Mine.hd.heap_1 w.params).In s.heap) (T : Top Mine.view (looseW Mine.view [Str.ofString "SnobolError"]) mean mg mb s.heap)
    (h : PatAt w s.heap p n) (hnm : NameAt w s.heap n a) :
    wpAny (model PySem.Challenge.rw_sj0194_01.row.prog w) (AA 600 600) (call (.ref 357) [.ref p]) (ListRes s [.ref n]) (fun _ _ => False) s := by
  revert T X; k_fill; intro X T
  obtain ⟨d, q, q1, q2, t1, t2, t3, t4, h1, h2, h3, h4, h5⟩ := h
  k_with_none
  w_top off
  k_with "call ref" => (refine use_list (by k_asm) (by k_asm) rfl (Nat.le_of_ble_eq_true rfl) (Nat.le_of_ble_eq_true rfl) (things_node (X.keeps (Fr.keep (by k_asm))) (T.keeps (Fr.keep (by k_asm))) (Fr.keep (by k_asm) _ _ h3) (Fr.keep (by k_asm) _ _ h4) (Fr.keep (by k_asm) _ _ h5) (hnm.keeps (Fr.keep (by k_asm)))) ?_; intro r' h' tk' n' F' N' hne')
  refine wpAny_call ?_
  refine' enter_fn (binds := [(Str.ofString "value", .ref p)]) ?k4 ?k5 ?k6 ?k7 ?k8 ?k9 ?kB ?_ ?c2 ?c3 ?c4 ?c5
  case k4 => exact X
  case k5 => exact T
  case k6 => k_is
  case k7 => k_is
  case k8 => decide
  case k9 => exact BindsTo.of_eq rfl
  case c5 => decide
  case kB => exact locs rfl
  case c2 => exact rfl
  case c3 => exact rfl
  case c4 => exact rfl
  k_whole
  intro L' h' F' N'
  (try dsimp only)
  (try k_fold)
  k_steps
  all_goals exact list_end (by assumption) (by assumption) (by k_mem)
end
end Mine
end
section
open PySem PySem.W PyProof.Rows PySem.Calls PySem.Spec
namespace Mine
section
local macro_rules | `(tactic| k_inst) => `(tactic| (refine' Mine.inst_frozen ?F ?h1 ?h2; (case F => k_asm); (case h1 => assumption); (case h2 => assumption)))
inductive HfJ (w : World) (g : Heap) (ts : List Addr) (B : Nat) (wa fa : Addr) (M0 : Str → Option Value) (n : Nat) (m : Str → Option Value) (nx : List (Addr × Obj)) : Prop
  | mk (vv : Option Value) (fs : List Addr) (ws : List Value) (bs : List Addr) (c1 c2 : Nat) (e1 : m = (fun y => if y = Str.ofString "value" then vv else M0 y)) (e2 : nx = [(wa, listOf ws.toArray c1), (fa, listOf (fs.map Value.ref).toArray c2)]) (e3 : Slots w g ws bs n) (e4 : (fs ++ bs).Perm ts) (e5 : ws.length ≤ B) (e6 : fs.length + bs.length ≤ B) : HfJ w g ts B wa fa M0 n m nx
theorem hf_turn {w : World} {g : Heap} {ts : List Addr} {B : Nat} {wa fa L : Addr} {M0 m' : Str → Option Value} {h' : Heap} {news : List (Addr × Obj)} {s₁ : Shared} {Q : Flow → Shared → Prop} {n tk : Nat} {vv : Option Value} {fs : List Addr} {ws : List Value} {bs : List Addr} {c1 c2 k : Nat}
    (F : Fr g L h' m') (N : News g L h' news) (hm : ∀ y, m' y = if y = Str.ofString "value" then vv else M0 y) (h1 : (wa, listOf ws.toArray c1) ∈ news) (h2 : (fa, listOf (fs.map Value.ref).toArray c2) ∈ news)
    (hS : Slots w g ws bs k) (hP : (fs ++ bs).Perm ts) (hB : ws.length ≤ B) (hB2 : fs.length + bs.length ≤ B) (hk : k < n) :
    WhileStep2 g L s₁ (HfJ w g ts B wa fa M0) Q n .next { s₁ with heap := h', toks := tk } := by
  refine ⟨h', tk, m', [(wa, listOf ws.toArray c1), (fa, listOf (fs.map Value.ref).toArray c2)], k, rfl, F, ?_, hk, vv, fs, ws, bs, c1, c2, funext hm, rfl, hS, hP, hB, hB2⟩
  intro p hp
  rcases List.mem_cons.mp hp with rfl | hp
  · exact N _ h1
  · rw [List.mem_singleton.mp hp]; exact N _ h2

inductive FoundRes (s : Shared) (ts : List Addr) (v : Value) (s' : Shared) : Prop
  | mk (fs : List Addr) (e1 : fs.Perm ts) (e2 : ListRes s (fs.map Value.ref) v s') : FoundRes s ts v s'
theorem hf {w : World} {s : Shared} {l : Addr} {vs : List Value} {ts : List Addr} {k c : Nat} {mean : ExcName → Option Value} {mg mb : Str → Option Value}
    (X : (Mine.hd.heap_1 w.params).In s.heap) (T : Top Mine.view (looseW Mine.view [Str.ofString "SnobolError"]) mean mg mb s.heap)
    (hl : s.heap.get? l = some (listOf vs.toArray c)) (hn : vs.length ≤ 5) (hs : Slots w s.heap vs ts k) :
    wpAny (model PySem.Challenge.rw_sj0194_01.row.prog w) (AA 500 500) (call (.ref 364) [.ref l]) (FoundRes s ts) (fun _ _ => False) s := by
  revert T X; k_fill; intro X T
  have hL : s.heap.IsList l vs.toArray := ⟨_, hl, rfl, c, rfl⟩
  k_with_none
  w_top off
  k_with "call ref" => (refine' use_list (d := 600) (u := 600) (by k_asm) (by k_asm) rfl (Nat.le_of_ble_eq_true rfl) (Nat.le_of_ble_eq_true rfl) ?zz ?_; (case zz => first
    | exact things_str (X.keeps (Fr.keep (by k_asm))) (T.keeps (Fr.keep (by k_asm)))
    | exact things_int (X.keeps (Fr.keep (by k_asm))) (T.keeps (Fr.keep (by k_asm)))
    | exact things_name (X.keeps (Fr.keep (by k_asm))) (T.keeps (Fr.keep (by k_asm))) (hnm.keeps (Fr.keep (by k_asm)))
    | exact things_pat (X.keeps (Fr.keep (by k_asm))) (T.keeps (Fr.keep (by k_asm))) (hpt.keeps (Fr.keep (by k_asm))) (hnm.keeps (Fr.keep (by k_asm)))); intro r' h' tk' n' F' N' hne'; simp only [List.forall_mem_cons] at hne'; obtain ⟨hr1, hr2, -⟩ := hne'; replace hr1 := neN hr1; replace hr2 := neN hr2)
  k_with "call builtin:list.extend" => first
    | (refine extend0 (by k_asm) (by k_asm) (by k_mem) (by k_upd) (by omega) ?_; intro h' F' N')
    | (refine extendL (by k_asm) (by k_asm) (by k_mem) (by k_upd) (by omega) ?_; intro h' F' N')
  k_with "exec While Compare cons nil" => refine Mine.stop ?_
  k_with "call builtin:len" => (first | refine lenC (by k_asm) (by k_mem) (by omega) ?_ | refine len1 (by k_asm) (by k_mem) (by simp only [List.length_nil]; omega) ?_)
  k_with "call builtin:list.pop" => (refine pop0 (by k_asm) (by k_asm) (by k_upd) (by rw [PySem.sizeLine_eq]; omega) ?_; intro h' F' N')
  k_with "call builtin:list.append" => (refine append1 (by k_asm) (by k_asm) (by k_upd) (by simp only [List.length_map]; omega) ?_; intro h' F' N')
  refine wpAny_call ?_
  refine' enter_fn (binds := [(Str.ofString "values", .ref l)]) ?k4 ?k5 ?k6 ?k7 ?k8 ?k9 ?kB ?_ ?c2 ?c3 ?c4 ?c5
  case k4 => exact X
  case k5 => exact T
  case k6 => k_is
  case k7 => k_is
  case k8 => decide
  case k9 => exact BindsTo.of_eq rfl
  case c5 => decide
  case kB => exact locs rfl
  case c2 => exact rfl
  case c3 => exact rfl
  case c4 => exact rfl
  k_whole
  intro L' h' F' N'
  (try dsimp only)
  (try k_fold)
  k_steps
  rename Fr _ _ _ _ => F0
  rename News _ _ _ _ => N0
  rename_i fa _ _ wa c1 _ hlt tp _ hlt2 _ _ _
  change wpAny _ _ _ _ _ _
  refine While_inv2 (n₀ := k) (news := [(wa, listOf vs.toArray c1), (fa, listOf #[] 0)]) (HfJ w s.heap ts 5 wa fa (fun y => if y = Str.ofString "waiting" then some (.ref wa) else if y = Str.ofString "found" then some (.ref fa) else if y = Str.ofString "values" then some (.ref l) else none)) F0 (news_sub N0 ?hsub) ?hst ?turn PassesOwn.never
  case hsub =>
    intro p hp
    simp only [List.mem_cons, List.not_mem_nil, or_false] at hp ⊢
    rcases hp with rfl | rfl
    · exact .inr (.inl rfl)
    · exact .inr (.inr rfl)
  case hst =>
    refine ⟨none, [], vs, ts, c1, 0, ?_, rfl, hs, by simp, hn, ?_⟩
    · funext y
      by_cases h1 : y = Str.ofString "value"
      · subst h1; with_unfolding_all rfl
      · by_cases h2 : y = Str.ofString "waiting"
        · subst h2; with_unfolding_all rfl
        · by_cases h3 : y = Str.ofString "found"
          · subst h3; with_unfolding_all rfl
          · by_cases h4 : y = Str.ofString "values"
            · subst h4; with_unfolding_all rfl
            · simp [h1, h2, h3, h4]
    · have := hs.targets; simp; omega
  case turn =>
    have hwf : wa ≠ fa := fun e => by rw [e] at hlt; exact Nat.lt_irrefl _ hlt
    clear F0 N0
    rintro n m₁ nx h1 tk1 F1 N1 ⟨vv, fs, ws, bs, c1, c2, rfl, rfl, hS, hP, hB, hB2⟩
    cases hS with
    | nil =>
      k_steps
      exact ⟨fs, by simpa using hP, list_end (by assumption) (by assumption) (by k_mem)⟩
    | cons hv hS' =>
      have hB4 := Nat.le_of_succ_le_succ hB
      simp only [List.length_append] at hB2
      have hT1 := hv.one
      cases hv with
      | str =>
        k_steps
        exact hf_turn (fs := fs) (ws := _) F' N' (by intro y; by_cases h9 : y = Str.ofString "value" <;> simp [h9] <;> rfl) (by k_mem) (by k_mem) hS' (by simpa using hP) (by first | omega | (simp only [List.length_append, List.length_cons, List.length_nil]; omega)) (by first | omega | (simp only [List.length_cons, List.length_nil] at hB2; simp only [List.length_append, List.length_cons, List.length_nil]; omega) | (simp only [List.length_cons, List.length_nil] at hB2; omega)) (by omega)
      | int =>
        k_steps
        exact hf_turn (fs := fs) (ws := _) F' N' (by intro y; by_cases h9 : y = Str.ofString "value" <;> simp [h9] <;> rfl) (by k_mem) (by k_mem) hS' (by simpa using hP) (by first | omega | (simp only [List.length_append, List.length_cons, List.length_nil]; omega)) (by first | omega | (simp only [List.length_cons, List.length_nil] at hB2; simp only [List.length_append, List.length_cons, List.length_nil]; omega) | (simp only [List.length_cons, List.length_nil] at hB2; omega)) (by omega)
      | arr ha =>
        rename_i a9 _ _
        obtain ⟨d, t1, t2, t3, t4, t5, t6, t7, t8, t9, t10, bl, e1, e2⟩ := ha
        k_steps
        rw [show (fs.map Value.ref ++ [Value.ref a9]) = (fs ++ [a9]).map Value.ref from by simp] at N'
        exact hf_turn (fs := fs ++ [a9]) (ws := _) F' N' (by intro y; by_cases h9 : y = Str.ofString "value" <;> simp [h9] <;> rfl) (by k_mem) (by k_mem) hS' (by simpa using hP) (by first | omega | (simp only [List.length_append, List.length_cons, List.length_nil]; omega)) (by first | omega | (simp only [List.length_cons, List.length_nil] at hB2; simp only [List.length_append, List.length_cons, List.length_nil]; omega) | (simp only [List.length_cons, List.length_nil] at hB2; omega)) (by omega)
      | name hnm ha =>
        obtain ⟨d, t1, t2, t3, t4, t5, e1, e2⟩ := id hnm
        k_steps
        exact hf_turn (fs := fs) (ws := _) F' N' (by intro y; by_cases h9 : y = Str.ofString "value" <;> simp [h9] <;> rfl) (by k_mem) (by k_mem) (hS'.app (Slots.one (.arr ha))) (by refine List.Perm.trans (List.Perm.append_left fs ?_) hP; exact List.perm_append_comm) (by first | omega | (simp only [List.length_append, List.length_cons, List.length_nil]; omega)) (by first | omega | (simp only [List.length_cons, List.length_nil] at hB2; simp only [List.length_append, List.length_cons, List.length_nil]; omega) | (simp only [List.length_cons, List.length_nil] at hB2; omega)) (by omega)
      | pat hpt hnm ha =>
        obtain ⟨d, q, q1, q2, t1, t2, t3, t4, e1, e2, e3, e4, e5⟩ := id hpt
        k_steps
        exact hf_turn (fs := fs) (ws := _) F' N' (by intro y; by_cases h9 : y = Str.ofString "value" <;> simp [h9] <;> rfl) (by k_mem) (by k_mem) (hS'.app (Slots.one (.name hnm ha))) (by refine List.Perm.trans (List.Perm.append_left fs ?_) hP; exact List.perm_append_comm) (by first | omega | (simp only [List.length_append, List.length_cons, List.length_nil]; omega)) (by first | omega | (simp only [List.length_cons, List.length_nil] at hB2; simp only [List.length_append, List.length_cons, List.length_nil]; omega) | (simp only [List.length_cons, List.length_nil] at hB2; omega)) (by omega)
end
end Mine
end
section
open PySem PySem.W PyProof.Rows PySem.Calls PySem.Spec
namespace Mine
theorem rebase {g h h' : Heap} {L' : Addr} {m : Str → Option Value} (F' : Fr h L' h' m) (st : g.StaysIn h) (hs : g.objs.size ≤ h.objs.size) : Fr g L' h' m := ⟨F'.ns, fun b o e => F'.keep b o (st b o e), Nat.le_trans hs F'.above⟩
theorem rebaseN {g h h' : Heap} {L L' : Addr} {m : Str → Option Value} {news : List (Addr × Obj)} (F' : Fr h L' h' m) (N : News g L h news) : News g L' h' news := fun p hp =>
  ⟨F'.keep _ _ (N p hp).1, Nat.ne_of_lt (Nat.lt_of_lt_of_le (Heap.lt_size (N p hp).1) F'.above), (N p hp).2.2⟩
theorem fr_size {g h : Heap} {L : Addr} {m : Str → Option Value} (F : Fr g L h m) : g.objs.size ≤ h.objs.size := Nat.le_trans F.above (Nat.le_of_lt F.ns.lt)
theorem own_obj {g h : Heap} {L : Addr} {m : Str → Option Value} (F : Fr g L h m) : ∃ oL, h.get? L = some oL ∧ LCg.NsObj oL m ∧ g.get? L = none := by
  obtain ⟨oL, e, ho⟩ := LCg.ns_obj F.ns
  exact ⟨oL, e, ho, Heap.get?_none_of_le F.above⟩
theorem own_back {g h' : Heap} {L L' : Addr} {m m' : Str → Option Value} {oL : Obj} {news : List (Addr × Obj)} (F' : Fr g L' h' m') (hoL : LCg.NsObj oL m) (hg : g.objs.size ≤ L) (N : News g L' h' ((L, oL) :: news)) : Fr g L h' m :=
  ⟨hoL.ns (N _ (.head _)).1, F'.keep, hg⟩
inductive TakeRes (g : Heap) (L : Addr) (m : Str → Option Value) (b sc : Addr) (tail : List (Addr × Obj)) (wide c : Int) (s : Shared) (v : Value) (s' : Shared) : Prop
  | mk (h' tk x tx c' t' items' ns' n0' n1') (e1 : v = .int x tx) (e2 : c' = c + 1) (e3 : s' = { s with heap := h', toks := tk }) (e4 : 0 ≤ x) (e5 : x < wide) (e6 : IntsAre items' ns') (e7 : items'.length ≤ 100) (e8 : Fr g L h' m) (e9 : News g L h' ((b, listOf [.ref sc, .int c' t'].toArray n0') :: (sc, listOf items'.toArray n1') :: tail)) : TakeRes g L m b sc tail wide c s v s'
theorem take_end {g h' : Heap} {L L' b sc : Addr} {m m' : Str → Option Value} {oL : Obj} {tail news : List (Addr × Obj)} {wide c x : Int} {tx t' : Tok} {tk n0' n1' : Nat} {items' : List Value} {ns' : List Int} {s : Shared}
    (F' : Fr g L' h' m') (N' : News g L' h' news) (hoL : LCg.NsObj oL m) (hga : g.objs.size ≤ L) (hb : @Ne Nat b L) (hs : @Ne Nat sc L) (htL : ∀ p ∈ tail, p.1 ≠ L) (m1 : (b, listOf [.ref sc, .int (c + 1) t'].toArray n0') ∈ news) (m2 : (sc, listOf items'.toArray n1') ∈ news) (m3 : (L, oL) ∈ news) (m4 : ∀ p ∈ tail, p ∈ news)
    (hI : IntsAre items' ns') (hl : items'.length ≤ 100) (hw : 0 < wide) : TakeRes g L m b sc tail wide c s (.int (x.fmod wide) tx) { s with heap := h', toks := tk } := by
  refine ⟨h', tk, _, tx, _, t', items', ns', n0', n1', rfl, rfl, rfl, Int.fmod_nonneg_of_pos _ hw, Int.fmod_lt_of_pos _ hw, hI, hl, ⟨hoL.ns (N' _ m3).1, F'.keep, hga⟩, fun p hp => ?_⟩
  rcases List.mem_cons.mp hp with rfl | hp
  · exact ⟨(N' _ m1).1, hb, (N' _ m1).2.2⟩
  · rcases List.mem_cons.mp hp with rfl | hp
    · exact ⟨(N' _ m2).1, hs, (N' _ m2).2.2⟩
    · exact ⟨(N' _ (m4 p hp)).1, htL p hp, (N' _ (m4 p hp)).2.2⟩
section
local macro_rules | `(tactic| k_all) => `(tactic| assumption)
theorem take_spec {w : World} {s : Shared} {g : Heap} {L b sc : Addr} {m : Str → Option Value} {tail : List (Addr × Obj)} {items : List Value} {ns : List Int} {c : Int} {tc tw : Tok} {n0 n1 : Nat} {wide : Int} {mean : ExcName → Option Value} {mg mb : Str → Option Value}
    (X : (Mine.hd.heap_1 w.params).In g) (T : Top Mine.view (looseW Mine.view [Str.ofString "SnobolError"]) mean mg mb g)
    (F : Fr g L s.heap m) (N : News g L s.heap ((b, listOf [.ref sc, .int c tc].toArray n0) :: (sc, listOf items.toArray n1) :: tail)) (hbs : @Ne Nat b sc) (ht1 : ∀ p ∈ tail, p.1 ≠ b) (ht2 : ∀ p ∈ tail, p.1 ≠ sc)
    (hI : IntsAre items ns) (hlen : items.length ≤ 100) (hw : 0 < wide) (hw2 : wide ≤ 10) (hc0 : 0 ≤ c) (hc1 : c ≤ 1000) :
    wpAny (model PySem.Challenge.rw_sj0194_01.row.prog w) (AA 320 320) (call (.ref 378) [.ref b, .int wide tw]) (TakeRes g L m b sc tail wide c s) (fun _ _ => False) s := by
  revert T X; k_fill; intro X T
  k_with_none
  w_top off
  k_with "call builtin:list.pop" => (refine pop0 (by k_asm) (by k_asm) (by k_upd) (by rw [PySem.sizeLine_eq]; simp only [List.length_cons] at hlen; omega) ?_; intro h' F' N')
  refine wpAny_call ?_
  refine' enter_fn (binds := [(Str.ofString "box", .ref b), (Str.ofString "wide", .int wide tw)]) ?k4 ?k5 ?k6 ?k7 ?k8 ?k9 ?kB ?_ ?c2 ?c3 ?c4 ?c5
  case k4 => exact X.keeps F.keep
  case k5 => exact T.keeps F.keep
  case k6 => k_is
  case k7 => k_is
  case k8 => decide
  case k9 => exact BindsTo.of_eq rfl
  case c5 => decide
  case kB => exact locs rfl
  case c2 => exact rfl
  case c3 => exact rfl
  case c4 => exact rfl
  obtain ⟨oL, heL, hoL, hgL⟩ := own_obj F
  have hbL : @Ne Nat b L := (N _ (.head _)).2.1
  have hsL : @Ne Nat sc L := (N _ (.tail _ (.head _))).2.1
  have hFa := F.above
  have htL : ∀ p ∈ tail, p.1 ≠ L := fun p hp => (N p (.tail _ (.tail _ hp))).2.1
  intro L' h' F₁ N₁
  have F' := rebase F₁ F.keep (fr_size F)
  have N' := rebaseN F₁ N
  have hLL : L ≠ L' := Nat.ne_of_lt (Nat.lt_of_lt_of_le F.ns.lt F₁.above)
  replace N' : News g L' h' ((b, listOf [.ref sc, .int c tc].toArray n0) :: (sc, listOf items.toArray n1) :: (L, oL) :: tail) := fun p hp => by
    rcases List.mem_cons.mp hp with rfl | hp
    · exact N' _ (.head _)
    · rcases List.mem_cons.mp hp with rfl | hp
      · exact N' _ (.tail _ (.head _))
      · rcases List.mem_cons.mp hp with rfl | hp
        · exact ⟨F₁.keep _ _ heL, hLL, hgL⟩
        · exact N' _ (.tail _ (.tail _ hp))
  clear N₁ F₁ N F
  k_whole
  (try dsimp only)
  (try k_fold)
  cases hI with
  | nil =>
    k_steps
    all_goals first
      | (rename_i hbad; simp at hbad; done)
      | skip
    exact take_end (by k_asm) (by k_asm) hoL hFa hbL hsL htL (by k_mem) (by k_mem) (by k_mem) (fun p hp => .tail _ (.tail _ (.tail _ (.tail _ hp)))) .nil (Nat.zero_le _) hw
  | cons a t hI' =>
    k_steps
    all_goals first
      | (rename_i hbad; simp at hbad; done)
      | skip
    exact take_end (by k_asm) (by k_asm) hoL hFa hbL hsL htL (by k_mem) (by k_mem) (by k_mem) (fun p hp => .tail _ (.tail _ (.tail _ (.tail _ hp)))) hI' (Nat.le_of_succ_le hlen) hw
end
end Mine
end
section
open PySem PySem.W PyProof.Rows PySem.Calls PySem.Spec
namespace Mine
inductive TurnEndR (h₀ : Heap) (L : Addr) (s : Shared) (J : (Str → Option Value) → List (Addr × Obj) → Prop) (own : List (Addr × Obj)) (s₂ : Shared) : Prop
  | mk (h' tk m' nx news') (e1 : s₂ = { s with heap := h', toks := tk }) (e2 : Fr h₀ L h' m') (e3 : News h₀ L h' news') (e4 : (∀ p ∈ nx, p ∈ news')) (e5 : (∀ p ∈ own, p ∈ news')) (e6 : (∀ p ∈ nx, ∀ q ∈ own, p.1 ≠ q.1)) (e7 : J m' nx) : TurnEndR h₀ L s J own s₂
def TurnPostR (h₀ : Heap) (L : Addr) (s : Shared) (J : (Str → Option Value) → List (Addr × Obj) → Prop) (own : List (Addr × Obj)) (Q : Flow → Shared → Prop) (f : Flow) (s₂ : Shared) : Prop :=
  match f with
  | .ret v => Q (.ret v) s₂
  | .brk => Q .next s₂
  | _ => TurnEndR h₀ L s J own s₂
theorem range_small : ∀ n : Nat, n ≤ 8 → Builtin.Range.small 0 (n : Int) 1 = true := by decide
theorem iter_range {prog : Program} {w : World} {A : Around} {E : Value → Shared → Prop} {s : Shared} {env : Env} {h₀ : Heap} {x : Str} {body : List Stmt} {Q : Flow → Shared → Prop} {r : Addr} {n : Nat} {t u v : Tok} {m₀ : Str → Option Value} {news : List (Addr × Obj)}
    (J : Nat → (Str → Option Value) → List (Addr × Obj) → Prop)
    (hh : A.handled = none) (hr : IsRange s.heap r 0 n 1 t u v) (hn : n ≤ 8) (F : Fr h₀ env.locals s.heap m₀) (N : News h₀ env.locals s.heap news) (hj : J 0 m₀ news)
    (turn : ∀ i t m₁ news₁ h tk own, i < n → J i m₁ news₁ → (∀ p ∈ news₁, ∀ q ∈ own, p.1 ≠ q.1) → (∀ q ∈ own, q.2.cls = .type "range_iterator") → Fr h₀ env.locals h (fun y => if y = x then some (.int (i : Int) t) else m₁ y) → News h₀ env.locals h (news₁ ++ own) →
      wpAny (model prog w) A (execs body env) (TurnPostR h₀ env.locals s (J (i + 1)) own Q) E { s with heap := h, toks := tk })
    (done : ∀ m₁ news₁ h tk, J n m₁ news₁ → Fr h₀ env.locals h m₁ → News h₀ env.locals h news₁ → Q .next { s with heap := h, toks := tk }) :
    wpAny (model prog w) A (pyIter (.ref r)) (fun it s₂ => LoopAtV prog w A h₀ env x body Q E it s₂) E s := by
  refine wpAny_pyIter_range hr ?hsm ?_
  case hsm => exact range_small n hn
  have W := LCg.range_walks (prog := prog) (w := w) (I := s.heap.objs.size) hh 0 n
  refine ⟨_, _, _, n, _, _, m₀, news, J, rfl, W, ?_, ?_, ?_, ?_, F.push _, (fun p hp => ⟨Heap.get?_push_of_some _ (N p hp).1, (N p hp).2⟩), hj, ?_, ?_⟩
  · intro hm
    exact absurd F.ns.lt (List.mem_singleton.mp hm ▸ Nat.lt_irrefl _)
  · intro b hb
    rw [List.mem_singleton.mp hb]
    exact next_is_new F
  · intro p hp hI
    exact absurd (Heap.lt_size (N p hp).1) ((List.mem_singleton.mp hI) ▸ Nat.lt_irrefl _)
  · show IsRangeIter _ _ _ _ _
    have e : Builtin.Range.rangeSize 0 (n : Int) 1 = (n : Int) := by rw [rangeSize_nat]; simp
    rw [e]
    simpa using Heap.get?_push_size s.heap rfl
  · rintro i v m₁ news₁ s₁ own ⟨hh', tk', rfl⟩ hin ⟨t', rfl⟩ hJ hoff hown hget hfp hst F₁ N₁
    rw [Int.zero_add] at F₁
    have hsep : ∀ p ∈ news₁, ∀ q ∈ own, p.1 ≠ q.1 := by
      intro p hp q hq e
      exact hoff p hp (by rw [e]; exact hown q hq)
    have N₂ : News h₀ env.locals hh' (news₁ ++ own) := fun p hp => N₁ p ((List.mem_append.mp hp).elim (fun h => List.mem_append.mpr (.inr h)) fun h => List.mem_append.mpr (.inl h))
    have hcl : ∀ q ∈ own, q.2.cls = .type "range_iterator" := by
      intro q hq
      have e1 : q.1 = s.heap.objs.size := List.mem_singleton.mp (hown q hq)
      have e2 := (N₂ q (List.mem_append.mpr (.inr hq))).1
      have e3 : hh'.get? s.heap.objs.size = some _ := hst
      rw [e1, e3] at e2
      rw [← Option.some.inj e2]
    have hiown : ∃ io, (s.heap.objs.size, io) ∈ own := by
      have := hst
      exact ⟨_, hfp _ (.head _) (next_is_new F) _ this⟩
    obtain ⟨io, hiown⟩ := hiown
    refine wpAny_mono (turn i t' m₁ news₁ hh' tk' own hin hJ hsep hcl F₁ N₂) (fun f s₂ p => ?_) fun _ _ e => e
    have fin : TurnEndR h₀ env.locals s (J (i + 1)) own s₂ → LoopStepU h₀ env.locals [s.heap.objs.size] own (J (i + 1)) { s with heap := hh', toks := tk' } .next s₂ := by
      rintro ⟨h', tk, m', nx, news', e, F', N', hn, ho, hap, hm⟩
      refine ⟨rfl, h', tk, m', nx, e, F', fun p hp => N' p ((List.mem_append.mp hp).elim (ho p) (hn p)), fun p hp hq => ?_, hm⟩
      exact hap p hp _ hiown (List.mem_singleton.mp hq)
    cases f with
    | ret v => exact .ret p
    | brk => exact .brk p
    | next => exact .next (fin p)
    | cont => exact .cont (fin p)
  · intro h' tk m' news' F' N' _ hJ
    exact done m' news' h' tk hJ F' N'
end Mine
end
section
open PySem PySem.W PyProof.Rows PySem.Calls PySem.Spec
namespace Mine
theorem valueAt_stored {K : Type} [DecidableEq K] (kvs : List (K × Value)) (k k' : K) (v : Value) : valueAt (stored kvs k v) k' = if k' = k then some v else valueAt kvs k' := by
  unfold valueAt stored
  split
  · rename_i ha
    induction kvs with
    | nil => simp at ha
    | cons p r ih =>
      obtain ⟨a, b⟩ := p
      simp only [List.map_cons, List.find?_cons]
      by_cases hk : a = k
      · subst hk
        simp only [if_true]
        by_cases h : a = k'
        · subst h; simp
        · have h' : ¬ k' = a := fun e => h e.symm
          simp only [h, h', decide_false, if_false]
          by_cases hr : (r.any fun kv => kv.1 = a) = true
          · have := ih hr
            rw [if_neg h'] at this
            exact this
          · have hid : r.map (fun kv => if kv.1 = a then (kv.1, v) else kv) = r.map id := by
              apply List.map_congr_left
              rintro ⟨x, y⟩ hx
              by_cases hxa : x = a
              · exact absurd (List.any_eq_true.mpr ⟨(x, y), hx, by simp [hxa]⟩) hr
              · simp [hxa]
            rw [hid, List.map_id]
      · simp only [hk, if_false]
        by_cases h : a = k'
        · subst h; simp [hk]
        · simp only [h, decide_false]
          refine ih ?_
          simpa [hk] using ha
  · rename_i ha
    rw [List.find?_append]
    by_cases h : k' = k
    · subst h
      have : kvs.find? (fun kv => decide (kv.1 = k')) = none := by
        rw [List.find?_eq_none]
        intro x hx hxe
        exact ha (List.any_eq_true.mpr ⟨x, hx, hxe⟩)
      rw [this]; simp
    · have h' : ¬ k = k' := fun e => h e.symm
      rw [if_neg h]
      cases hq : kvs.find? (fun kv => decide (kv.1 = k')) <;> simp [h']
theorem use_found {w : World} {A : Around} {s : Shared} {g : Heap} {L : Addr} {m : Str → Option Value} {news : List (Addr × Obj)} {f : Value} {args : List Value} {ts : List Addr} {Q : Value → Shared → Prop} {E : Value → Shared → Prop} {d u : Nat}
    (F : Fr g L s.heap m) (N : News g L s.heap news) (hh : A.handled = none) (hd : A.depth ≤ d) (hu : A.units ≤ u)
    (h : wpAny (model PySem.Challenge.rw_sj0194_01.row.prog w) (AA d u) (call f args) (FoundRes s ts) (fun _ _ => False) s)
    (k : ∀ (fs : List Addr) (r : Addr) (h' : Heap) (tk n : Nat), fs.Perm ts → Fr g L h' m → News g L h' ((r, listOf (fs.map Value.ref).toArray n) :: news) → (∀ p ∈ news, @Ne Nat p.1 r) → Q (.ref r) { s with heap := h', toks := tk }) :
    wpAny (model PySem.Challenge.rw_sj0194_01.row.prog w) A (call f args) Q E s := by
  refine weaken d u hh hd hu (wpAny_mono h (fun v s' hr => ?_) fun _ _ x => x.elim)
  obtain ⟨fs, hp, r, h', tk, n, rfl, rfl, st, hr0, hr1⟩ := hr
  exact k fs r h' tk n hp (fr_stays F st) (news_new F N st hr0 hr1) (news_ne N hr0)
theorem perm_map {α β : Type} {f : α → β} {l : List α} {k : List β} (h : k.Perm (l.map f)) : ∃ l' : List α, l'.Perm l ∧ k = l'.map f := by
  generalize hm : l.map f = m at h
  induction h generalizing l with
  | nil => exact ⟨[], by rw [List.map_eq_nil_iff.mp hm], rfl⟩
  | cons x _ ih =>
    cases l with
    | nil => cases hm
    | cons a l =>
      simp only [List.map_cons, List.cons.injEq] at hm
      obtain ⟨rfl, hm⟩ := hm
      obtain ⟨l', h1, rfl⟩ := ih hm
      exact ⟨a :: l', h1.cons a, rfl⟩
  | swap x y t =>
    cases l with
    | nil => cases hm
    | cons a l =>
      cases l with
      | nil => cases hm
      | cons b l =>
        simp only [List.map_cons, List.cons.injEq] at hm
        obtain ⟨rfl, rfl, rfl⟩ := hm
        exact ⟨b :: a :: l, .swap a b l, rfl⟩
  | trans _ _ ih1 ih2 =>
    obtain ⟨l2, h2, rfl⟩ := ih2 hm
    obtain ⟨l1, h1, rfl⟩ := ih1 rfl
    exact ⟨l1, h1.trans h2, rfl⟩
structure GraphAt (w : World) (h : Heap) (n : Nat) (ad : Nat → Addr) (adj : Nat → List Nat) : Prop where
  node : ∀ i, i < n → ∃ (il : Addr) (vs : List Value) (c k : Nat) (ts : List Addr), ArrAt w h (ad i) ((i : Int) + 1) il ∧ h.get? il = some (listOf vs.toArray c) ∧ vs.length ≤ 2 ∧ Slots w h vs ts k ∧ ts.Perm ((adj i).map ad)
  out : ∀ i, i < n → ∀ j ∈ adj i, j < n
theorem GraphAt.keeps {w : World} {h h' : Heap} {n : Nat} {ad : Nat → Addr} {adj : Nat → List Nat} (st : h.StaysIn h') (G : GraphAt w h n ad adj) : GraphAt w h' n ad adj := by
  refine ⟨fun i hi => ?_, G.out⟩
  obtain ⟨il, vs, c, k, ts, h1, h2, h3, h4, h5⟩ := G.node i hi
  exact ⟨il, vs, c, k, ts, h1.keeps st, st _ _ h2, h3, h4.keeps st, h5⟩
def WayRes (s : Shared) (adj : Nat → List Nat) (rs : List Nat) (g : Int) (v : Value) (s' : Shared) : Prop :=
  (ValRes s .none v s' ∧ ∀ x p, Path adj rs p x → (x : Int) + 1 ≠ g) ∨
  (∃ items p x, ListRes s items v s' ∧ IntsAre items (p.map fun i => ((i : Nat) : Int) + 1) ∧ Path adj rs p x ∧ (x : Int) + 1 = g ∧ ∀ p', Path adj rs p' x → p.length ≤ p'.length)
structure WaysOk (kvs : List (Int × Value)) (paths : List (Addr × Obj)) (P : Nat → Option (List Nat)) : Prop where
  some_ : ∀ x p, P x = some p → ∃ (a : Addr) (items : List Value) (c : Nat), valueAt kvs ((x : Int) + 1) = some (.ref a) ∧ (a, listOf items.toArray c) ∈ paths ∧ IntsAre items (p.map fun i => ((i : Nat) : Int) + 1)
  none_ : ∀ x, P x = none → valueAt kvs ((x : Int) + 1) = none
theorem WaysOk.put {kvs : List (Int × Value)} {paths : List (Addr × Obj)} {P P' : Nat → Option (List Nat)} {r : Nat} {p : List Nat} {a : Addr} {items : List Value} {c : Nat} (W : WaysOk kvs paths P) (hi : IntsAre items (p.map fun i => ((i : Nat) : Int) + 1))
    (hP : ∀ x, P' x = if x = r then some p else P x) : WaysOk (stored kvs ((r : Int) + 1) (.ref a)) ((a, listOf items.toArray c) :: paths) P' := by
  refine ⟨fun x q e => ?_, fun x e => ?_⟩
  · rw [hP] at e
    rw [valueAt_stored]
    by_cases h : x = r
    · subst h
      rw [if_pos rfl] at e ⊢
      cases e
      exact ⟨a, items, c, rfl, .head _, hi⟩
    · rw [if_neg h] at e
      have h' : ¬ ((x : Int) + 1 = (r : Int) + 1) := by omega
      rw [if_neg h']
      obtain ⟨b, its, c', h1, h2, h3⟩ := W.some_ x q e
      exact ⟨b, its, c', h1, .tail _ h2, h3⟩
  · rw [hP] at e
    rw [valueAt_stored]
    by_cases h : x = r
    · rw [if_pos h] at e; cases e
    · rw [if_neg h] at e
      have h' : ¬ ((x : Int) + 1 = (r : Int) + 1) := by omega
      rw [if_neg h']
      exact W.none_ x e
inductive WtJ1 (prog : Program) (w : World) (fi : List Nat) (ad : Nat → Addr) (wt wy : Addr) (M0 : Str → Option Value) (i : Nat) (m : Str → Option Value) (nx : List (Addr × Obj)) : Prop
  | mk (hv : Option Value) (c1 : Nat) (od : Obj) (kvs : List (Int × Value)) (paths : List (Addr × Obj)) (P : Nat → Option (List Nat)) (e1 : m = (fun y => if y = Str.ofString "holder" then hv else M0 y)) (e2 : nx = (wt, listOf ((fi.take i).map fun r => Value.ref (ad r)).toArray c1) :: (wy, od) :: paths) (e3 : od.IsDictOf (intKind prog w) kvs) (e4 : WaysOk kvs paths P) (e5 : (∀ x, P x = if x ∈ fi.take i then some [x] else none)) (e6 : kvs.length ≤ i) (e7 : (∀ p ∈ paths, p.2.cls = .type "list")) (e8 : (∀ p ∈ paths, p.1 ≠ wt)) (e9 : (∀ p ∈ paths, p.1 ≠ wy)) : WtJ1 prog w fi ad wt wy M0 i m nx
theorem TurnEnd.mk {h₀ : Heap} {L : Addr} {s : Shared} {J : (Str → Option Value) → List (Addr × Obj) → Prop} {own news' : List (Addr × Obj)} {h' : Heap} {tk : Nat} {m' : Str → Option Value} (nx : List (Addr × Obj)) (F : Fr h₀ L h' m') (N : News h₀ L h' news')
    (hn : ∀ p ∈ nx, p ∈ news') (ho : ∀ p ∈ own, p ∈ news') (hj : J m' nx) : TurnEnd h₀ L s J own { s with heap := h', toks := tk } := ⟨h', tk, m', nx, news', rfl, F, N, hn, ho, hj⟩
theorem dict_cls {prog : Program} {w : World} {o : Obj} {kvs : List (Int × Value)} (h : o.IsDictOf (intKind prog w) kvs) : o.cls = .type "dict" := by
  obtain ⟨es, ep, h1, h2, _⟩ := h
  exact h1.1
def WtM1 (wt wy l : Addr) (g : Int) (tg : Tok) : Str → Option Value := fun y => if y = Str.ofString "waiting" then some (.ref wt) else if y = Str.ofString "ways" then some (.ref wy) else if y = Str.ofString "roots" then some (.ref l) else if y = Str.ofString "number" then some (.int g tg) else none
theorem IntsAre.app : ∀ {vs us : List Value} {ns ms : List Int}, IntsAre vs ns → IntsAre us ms → IntsAre (vs ++ us) (ns ++ ms)
  | _, _, _, _, .nil, h => h
  | _, _, _, _, .cons n t r, h => .cons n t (IntsAre.app r h)
structure WtLed (prog : Program) (w : World) (n : Nat) (ad : Nat → Addr) (wt wy : Addr) (q : List Nat) (P : Nat → Option (List Nat)) (c1 : Nat) (od : Obj) (kvs : List (Int × Value)) (paths nx : List (Addr × Obj)) : Prop where
  nx_ : nx = (wt, listOf (q.map fun r => Value.ref (ad r)).toArray c1) :: (wy, od) :: paths
  hod : od.IsDictOf (intKind prog w) kvs
  ways : WaysOk kvs paths P
  len : kvs.length ≤ q.length
  short : ∀ x p, P x = some p → p.length ≤ q.length + 1
  lt : ∀ x ∈ q, x < n
  cls : ∀ p ∈ paths, p.2.cls = .type "list"
  nwt : ∀ p ∈ paths, p.1 ≠ wt
  nwy : ∀ p ∈ paths, p.1 ≠ wy
theorem WtLed.plain {prog : Program} {w : World} {n : Nat} {ad : Nat → Addr} {wt wy : Addr} {q : List Nat} {P : Nat → Option (List Nat)} {c1 : Nat} {od : Obj} {kvs : List (Int × Value)} {paths nx : List (Addr × Obj)} (D : WtLed prog w n ad wt wy q P c1 od kvs paths nx) : ∀ p ∈ nx, p.2.cls ≠ .type "list_iterator" := by
  intro p hp
  rw [D.nx_] at hp
  rcases List.mem_cons.mp hp with rfl | hp
  · intro e; injection e with e; exact absurd e (by decide)
  · rcases List.mem_cons.mp hp with rfl | hp
    · rw [dict_cls D.hod]; intro e; injection e with e; exact absurd e (by decide)
    · rw [D.cls p hp]; intro e; injection e with e; exact absurd e (by decide)
inductive WtJ2 (prog : Program) (w : World) (n : Nat) (adj : Nat → List Nat) (rs : List Nat) (g : Int) (ad : Nat → Addr) (wt wy : Addr) (M1 : Str → Option Value) (k : Nat) (m : Str → Option Value) (nx : List (Addr × Obj)) : Prop
  | mk (hv hh : Option Value) (at_ : Nat) (ta : Tok) (q : List Nat) (P : Nat → Option (List Nat)) (c1 : Nat) (od : Obj) (kvs : List (Int × Value)) (paths : List (Addr × Obj)) (e1 : m = (fun y => if y = Str.ofString "holder" then hv else if y = Str.ofString "here" then hh else if y = Str.ofString "at" then some (.int at_ ta) else M1 y)) (e2 : WtLed prog w n ad wt wy q P c1 od kvs paths nx) (e3 : Bfs n adj rs q at_ P) (e4 : (∀ (i x : Nat), i < at_ → q[i]? = some x → (x : Int) + 1 ≠ g)) (e5 : k = rs.length + n + 1 - at_) (e6 : at_ ≤ rs.length + n) : WtJ2 prog w n adj rs g ad wt wy M1 k m nx
inductive WtJ3 (prog : Program) (w : World) (n : Nat) (adj : Nat → List Nat) (rs : List Nat) (g : Int) (ad : Nat → Addr) (wt wy : Addr) (M1 : Str → Option Value) (at_ here : Nat) (ta : Tok) (fa : List Nat) (i : Nat) (m : Str → Option Value) (nx : List (Addr × Obj)) : Prop
  | mk (hv : Option Value) (q : List Nat) (P : Nat → Option (List Nat)) (ph : List Nat) (c1 : Nat) (od : Obj) (kvs : List (Int × Value)) (paths : List (Addr × Obj)) (e1 : m = (fun y => if y = Str.ofString "holder" then hv else if y = Str.ofString "here" then some (.ref (ad here)) else if y = Str.ofString "at" then some (.int ((at_ : Int) + 1) ta) else M1 y)) (e2 : WtLed prog w n ad wt wy q P c1 od kvs paths nx) (e3 : Mid n adj rs q at_ P here ph (fa.take i)) (e4 : (∀ (i x : Nat), i < at_ + 1 → q[i]? = some x → (x : Int) + 1 ≠ g)) : WtJ3 prog w n adj rs g ad wt wy M1 at_ here ta fa i m nx
section
local macro_rules | `(tactic| k_all) => `(tactic| assumption)
local macro_rules | `(tactic| k_inst) => `(tactic| (refine' Mine.inst_frozen ?F ?h1 ?h2; (case F => k_asm); (case h1 => assumption); (case h2 => assumption)))
theorem way_to_spec {w : World} {s : Shared} {l : Addr} {vs : List Value} {rs : List Nat} {n : Nat} {ad : Nat → Addr} {adj : Nat → List Nat} {g : Int} {tg : Tok} {k c : Nat} {mean : ExcName → Option Value} {mg mb : Str → Option Value}
    (X : (Mine.hd.heap_1 w.params).In s.heap) (T : Top Mine.view (looseW Mine.view [Str.ofString "SnobolError"]) mean mg mb s.heap)
    (G : GraphAt w s.heap n ad adj) (hn4 : n ≤ 4) (hl : s.heap.get? l = some (listOf vs.toArray c)) (hn : vs.length ≤ 5) (hs : Slots w s.heap vs (rs.map ad) k) (hr : ∀ r ∈ rs, r < n) :
    wpAny (model PySem.Challenge.rw_sj0194_01.row.prog w) (AA 400 400) (call (.ref 371) [.ref l, .int g tg]) (WayRes s adj rs g) (fun _ _ => False) s := by
  revert T X; k_fill; intro X T
  k_with_none
  w_top off
  k_with "exec While Compare cons nil" => refine Mine.stop ?_
  k_with "exec For Name Call cons nil" => refine Mine.stop ?_
  k_with "call ref" => first
    | (refine use_found (d := 500) (u := 500) (by k_asm) (by k_asm) rfl (Nat.le_of_ble_eq_true rfl) (Nat.le_of_ble_eq_true rfl) (hf (X.keeps (Fr.keep (by k_asm))) (T.keeps (Fr.keep (by k_asm))) (Fr.keep (by k_asm) _ _ hl) hn (hs.keeps (Fr.keep (by k_asm)))) ?_; intro fs9 r9 h' tk' n' hp9 F' N' hne')
    | (refine use_val (d := 600) (u := 600) (by k_asm) (by k_asm) rfl (Nat.le_of_ble_eq_true rfl) (Nat.le_of_ble_eq_true rfl) (things_arr (X.keeps (Fr.keep (by k_asm))) (T.keeps (Fr.keep (by k_asm))) (harr.keeps (Fr.keep (by k_asm)))) ?_; intro h' tk' F' N')
    | (refine use_found (d := 500) (u := 500) (by k_asm) (by k_asm) rfl (Nat.le_of_ble_eq_true rfl) (Nat.le_of_ble_eq_true rfl) (hf (X.keeps (Fr.keep (by k_asm))) (T.keeps (Fr.keep (by k_asm))) (Fr.keep (by k_asm) _ _ hitl) (by omega) (hits.keeps (Fr.keep (by k_asm)))) ?_; intro fs9 r9 h' tk' n' hp9 F' N' hne')
  k_with "subscriptTail Name Name ref int" => first
    | (refine item1 (by k_asm) (by k_mem) (by omega) (by omega) hitem ?_)
    | (refine kda_item (by k_asm) (by k_mem) hod (intKind_is _ _ _ _) (hway _ (by assumption)) ?_)
  k_with "subscriptTail Name Attribute ref int" => (refine kda_item (by k_asm) (by k_mem) hod (intKind_is _ _ _ _) hway ?_)
  k_with "compareOp NotIn int ref" => (refine kdg_notin (by k_asm) (by k_mem) hod lo (intKind_is _ _ _ _) _ hisin ?_; dsimp only [Bool.not_false, Bool.not_true])
  k_with "binaryOp Add ref ref" => (refine addL (by k_asm) (by k_asm) (List.mem_cons_of_mem _ (List.mem_cons_of_mem _ (List.mem_cons_of_mem _ hpm9))) (by k_mem) (by omega) ?_; intro np9 h' F' N' hnp9; k_lt hnp9)
  k_with "call builtin:len" => (refine len1 (by k_asm) (by k_mem) (by omega) ?_)
  k_with "setItem ref int" => (refine kda_set (knd := intKind _ _) (by k_asm) (by k_asm) (by k_updF) hod (intKind_is _ _ _ _) (by rw [PySem.sizeLine_eq]; omega) ?_; intro h' od9 F' N' hod9; try dsimp only at N')
  k_with "call builtin:list.append" => (refine append1 (by k_asm) (by k_asm) (by k_upd) (by omega) ?_; intro h' F' N')
  k_with "pyIter ref" => refine Mine.stop ?_
  refine wpAny_call ?_
  refine' enter_fn (binds := [(Str.ofString "roots", .ref l), (Str.ofString "number", .int g tg)]) ?k4 ?k5 ?k6 ?k7 ?k8 ?k9 ?kB ?_ ?c2 ?c3 ?c4 ?c5
  case k4 => exact X
  case k5 => exact T
  case k6 => k_is
  case k7 => k_is
  case k8 => decide
  case k9 => exact BindsTo.of_eq rfl
  case c5 => decide
  case kB => exact locs rfl
  case c2 => exact rfl
  case c3 => exact rfl
  case c4 => exact rfl
  k_whole
  intro L' h' F' N'
  (try dsimp only)
  (try k_fold)
  k_steps
  rename Fr _ _ _ _ => F0
  rename News _ _ _ _ => N0
  rename_i wy _ od lo hos fos hoi foi _ wt _ hlt tp _ hlt2 _ _ _ _
  clear hos fos foi
  change wpAny _ _ _ _ _ _
  with_unfolding_all refine' For_invVF F0 ?k1 ?k2 ?_ ?k3 PassesOwn.never
  case k1 => exact rfl
  case k2 => exact rfl
  case k3 => intro _; rfl
  k_steps
  obtain ⟨fi, hfi, rfl⟩ := perm_map hp9
  have hwy9 : @Ne Nat wy r9 := hne' (wy, od) (by simp)
  have hwt9 : @Ne Nat wt r9 := hne' (wt, _) (List.mem_cons_of_mem _ (List.mem_cons_self ..))
  have hfl : fi.length ≤ 5 := by
    have h1 := hfi.length_eq
    have h2 := hs.targets
    rw [List.length_map] at h2
    omega
  have hfn : ∀ r ∈ fi, r < n := fun r h => hr r (hfi.mem_iff.mp h)
  obtain ⟨ta, hta⟩ : ∃ ta, (fun (m : Str → Option Value) (_ : Fr s.heap L' h' m) => m (Str.ofString "at")) _ F' = some (.int 0 ta) := ⟨_, by with_unfolding_all rfl⟩
  dsimp only at hta
  change wpAny _ _ _ _ _ _
  refine iter_list (vs := fi.map fun r => Value.ref (ad r)) (nn := n') (news := [(wt, listOf #[] 0), (wy, od)]) (WtJ1 PySem.Challenge.rw_sj0194_01.row.prog w fi ad wt wy (fun y => if y = Str.ofString "at" then some (.int 0 ta) else if y = Str.ofString "waiting" then some (.ref wt) else if y = Str.ofString "ways" then some (.ref wy) else if y = Str.ofString "roots" then some (.ref l) else if y = Str.ofString "number" then some (.int g tg) else none)) rfl ?hl ?hL F' (news_sub (news' := [_, _]) N' ?hsub) ?hj ?hcls ?turn ?done
  case hl =>
    have := (N' _ (List.mem_cons_self ..)).1
    simpa [List.map_map, Function.comp_def] using this
  case hL => exact (N' _ (List.mem_cons_self ..)).2.1
  case hsub => intro p hp; exact List.mem_cons_of_mem _ (List.mem_cons_of_mem _ hp)
  case hj =>
    refine ⟨none, 0, od, [], [], fun _ => none, ?_, rfl, hoi, ⟨fun x p e => (nomatch e), fun x _ => rfl⟩, fun x => by simp, Nat.le_refl _, fun _ h => (nomatch h), fun _ h => (nomatch h), fun _ h => (nomatch h)⟩
    funext y
    by_cases h1 : y = Str.ofString "holder"
    · subst h1; with_unfolding_all rfl
    · by_cases h2 : y = Str.ofString "at"
      · subst h2; exact hta.trans (by with_unfolding_all rfl)
      · by_cases h3 : y = Str.ofString "waiting"
        · subst h3; with_unfolding_all rfl
        · by_cases h4 : y = Str.ofString "ways"
          · subst h4; with_unfolding_all rfl
          · by_cases h5 : y = Str.ofString "roots"
            · subst h5; with_unfolding_all rfl
            · by_cases h6 : y = Str.ofString "number"
              · subst h6; with_unfolding_all rfl
              · simp [h1, h2, h3, h4, h5, h6, List.lookup_cons, beq_eq_false_iff_ne.mpr h5, beq_eq_false_iff_ne.mpr h6]
  case hcls =>
    rintro i m nx ⟨hv, c1, od', kvs, paths, P, _, rfl, hd, _, _, _, hpl, _, _⟩ p hp
    rcases List.mem_cons.mp hp with rfl | hp
    · intro e; injection e with e; exact absurd e (by decide)
    · rcases List.mem_cons.mp hp with rfl | hp
      · rw [dict_cls hd]; intro e; injection e with e; exact absurd e (by decide)
      · rw [hpl p hp]; intro e; injection e with e; exact absurd e (by decide)
  case turn =>
    rintro i v m₁ nx h2 tk2 own hiv ⟨hv, c1, od', kvs, paths, P, rfl, rfl, hod, hW, hP, hkl, hpl, hpt, hpy⟩ hoff F2 N2
    rw [List.getElem?_map] at hiv
    obtain ⟨r, hri, rfl⟩ := Option.map_eq_some_iff.mp hiv
    obtain ⟨il, vs', c', k', ts', ⟨d, t1, t2, t3, t4, t5, t6, t7, t8, t9, t10, bl, e1, e2⟩, -⟩ := G.node r (hfn r (List.mem_of_getElem? hri))
    have hot : ∀ p ∈ paths ++ own, p.1 ≠ wt := fun p hp => (List.mem_append.mp hp).elim (hpt p) fun hp e => hoff p hp (wt, _) (List.mem_cons_self ..) hwt9 e.symm
    have hoy : ∀ p ∈ paths ++ own, p.1 ≠ wy := fun p hp => (List.mem_append.mp hp).elim (hpy p) fun hp e => hoff p hp (wy, _) (List.mem_cons_of_mem _ (List.mem_cons_self ..)) hwy9 e.symm
    have hil : i < fi.length := (List.getElem?_eq_some_iff.mp hri).1
    have htl : ((fi.take i).map fun r => Value.ref (ad r)).length ≤ 5 := by simp; omega
    simp only [List.cons_append] at N2
    clear F' N' F0 N0
    k_steps
    rename_i nl _ _ _ hlt9 _ _ _ _
    dsimp only [TurnPost]
    have htk : (fi.take (i + 1)) = fi.take i ++ [r] := by rw [List.take_add_one, hri]; rfl
    refine TurnEnd.mk ((wt, listOf ((fi.take (i + 1)).map fun r => Value.ref (ad r)).toArray (c1 + 1)) :: (wy, od9) :: (nl, listOf [Value.int ((r : Int) + 1) t8].toArray 0) :: paths) F' N' ?_ ?_ ?_
    · intro p hp
      rw [htk, List.map_append] at hp
      rcases List.mem_cons.mp hp with rfl | hp
      · exact List.mem_cons_of_mem _ (List.mem_cons_self ..)
      · rcases List.mem_cons.mp hp with rfl | hp
        · exact List.mem_cons_of_mem _ (List.mem_cons_of_mem _ (List.mem_cons_self ..))
        · rcases List.mem_cons.mp hp with rfl | hp
          · exact List.mem_cons_self ..
          · exact List.mem_cons_of_mem _ (List.mem_cons_of_mem _ (List.mem_cons_of_mem _ (List.mem_append.mpr (.inl hp))))
    · intro p hp
      exact List.mem_cons_of_mem _ (List.mem_cons_of_mem _ (List.mem_cons_of_mem _ (List.mem_append.mpr (.inr hp))))
    · refine ⟨some (.ref (ad r)), c1 + 1, od9, _, (nl, listOf [Value.int ((r : Int) + 1) t8].toArray 0) :: paths, fun x => if x = r then some [r] else P x, ?_, rfl, hod9, hW.put (p := [r]) (.cons _ _ .nil) (fun _ => rfl), ?_, ?_, ?_, ?_, ?_⟩
      · funext y
        by_cases h9 : y = Str.ofString "holder" <;> simp [h9]
      · intro x
        rw [htk]
        by_cases hx : x = r
        · subst hx; simp
        · simp [hx, hP]
      · have := stored_length_le kvs ((r : Int) + 1) (.ref nl)
        omega
      · intro p hp
        rcases List.mem_cons.mp hp with rfl | hp
        · rfl
        · exact hpl p hp
      · intro p hp
        rcases List.mem_cons.mp hp with rfl | hp
        · exact fun e => Nat.lt_irrefl _ (e ▸ hlt9.1)
        · exact hpt p hp
      · intro p hp
        rcases List.mem_cons.mp hp with rfl | hp
        · exact fun e => Nat.lt_irrefl _ (e ▸ hlt9.2.1)
        · exact hpy p hp
  case done =>
    rintro m₁ nx h2 tk2 ⟨hv, c1, od', kvs, paths, P, rfl, rfl, hod, hW, hP, hkl, hpl, hpt, hpy⟩ F2 N2
    rw [List.length_map, List.take_length] at N2
    simp only [List.length_map, List.take_length] at hP hkl
    clear F' N' F0 N0
    dsimp only
    k_steps
    change wpAny _ _ _ _ _ _
    refine While_inv2 (n₀ := fi.length + n + 1) (WtJ2 PySem.Challenge.rw_sj0194_01.row.prog w n adj fi g ad wt wy (WtM1 wt wy l g tg)) F2 N2 ?hst ?turn2 PassesOwn.never
    case hst =>
      refine ⟨hv, none, 0, ta, fi, P, c1, od', kvs, paths, ?_, ⟨rfl, hod, hW, hkl, fun x p e => by rw [hP] at e; split at e <;> cases e; simp, hfn, hpl, hpt, hpy⟩, Bfs.start hP, fun i x h => absurd h (Nat.not_lt_zero _), rfl, Nat.zero_le _⟩
      funext y
      by_cases h1 : y = Str.ofString "holder"
      · simp [h1]
      · by_cases h2 : y = Str.ofString "here"
        · subst h2; with_unfolding_all rfl
        · simp [h1, h2, WtM1]
    case turn2 =>
      rintro k9 m9 nx9 h9 tk9 F9 N9 ⟨hv9, hh9, at_, ta9, q, P9, c9, od9, kvs9, paths9, rfl, D, B, miss, rfl, hat⟩
      obtain ⟨rfl, hod, hW9, hkl9, hsh9, hq9, hpl9, hpt9, hpy9⟩ := id D
      have hqb := B.bound
      have hql : (q.map fun r => Value.ref (ad r)).length ≤ 9 := by rw [List.length_map]; omega
      clear F2 N2
      rcases Nat.lt_or_ge at_ q.length with hlt | hge
      · have hdec : (at_ : Int) < ((q.map fun r => Value.ref (ad r)).length : Nat) := by rw [List.length_map]; omega
        obtain ⟨x, hx⟩ : ∃ x, q[at_]? = some x := ⟨_, List.getElem?_eq_getElem hlt⟩
        have hxq := List.mem_of_getElem? hx
        obtain ⟨px, hpx⟩ := (B.dom x).mp hxq
        have hitem : (q.map fun r => Value.ref (ad r))[((at_ : Nat) : Int).toNat]? = some (.ref (ad x)) := by simp [hx]
        obtain ⟨pa, its, cp, hv1, hv2, hv3⟩ := hW9.some_ x px hpx
        have hway : ∀ g', (x : Int) + 1 = g' → valueAt kvs9 g' = some (.ref pa) := fun g' e => e ▸ hv1
        obtain ⟨il, vs', c', k', ts', harr, hitl, hit2, hits, hperm⟩ := G.node x (hq9 x hxq)
        obtain ⟨d, t1, t2, t3, t4, t5, t6, t7, t8, t9, t10, bl, e1, e2⟩ := id harr
        k_steps
        · show WayRes s adj rs g (.ref pa) _
          refine .inr ⟨its, px, x, list_end (by assumption) (by assumption) (List.mem_cons_of_mem _ (List.mem_cons_of_mem _ hv2)), hv3, (B.path x px hpx).roots fun r h => hfi.mem_iff.mp h, by assumption, fun p' hp' => B.short hx hpx (hp'.roots fun r h => hfi.mem_iff.mpr h)⟩
        · rename Fr _ _ _ _ => F3
          rename News _ _ _ _ => N3
          rename_i hxg
          change wpAny _ _ _ _ _ _
          with_unfolding_all refine' For_invVF F3 ?kk1 ?kk2 ?_ ?kk3 PassesOwn.never
          case kk1 => exact rfl
          case kk2 => exact rfl
          case kk3 => intro _; rfl
          k_steps
          obtain ⟨fa, hfa, rfl⟩ := perm_map (hp9.trans hperm)
          have hwy8 : @Ne Nat wy r9 := hne' (wy, od9) (by simp)
          have hwt8 : @Ne Nat wt r9 := hne' (wt, _) (List.mem_cons_self ..)
          obtain ⟨tb, htb⟩ : ∃ tb, (fun (m : Str → Option Value) (_ : Fr s.heap L' h' m) => m (Str.ofString "at")) _ F' = some (.int ((at_ : Int) + 1) tb) := ⟨_, by with_unfolding_all rfl⟩
          dsimp only at htb
          change wpAny _ _ _ _ _ _
          refine iter_list (vs := fa.map fun r => Value.ref (ad r)) (nn := n') (news := (wt, listOf (q.map fun r => Value.ref (ad r)).toArray c9) :: (wy, od9) :: paths9) (WtJ3 PySem.Challenge.rw_sj0194_01.row.prog w n adj fi g ad wt wy (WtM1 wt wy l g tg) at_ x tb fa) rfl ?hl3 ?hL3 F' (news_sub N' ?hsub3) ?hj3 ?hcls3 ?turn3 ?done3
          case hl3 =>
            have := (N' _ (List.mem_cons_self ..)).1
            simpa [List.map_map, Function.comp_def] using this
          case hL3 => exact (N' _ (List.mem_cons_self ..)).2.1
          case hsub3 => intro p hp; exact List.mem_cons_of_mem _ hp
          case hj3 =>
            refine ⟨hv9, q, P9, px, c9, od9, kvs9, paths9, ?_, D, B.mid hx hpx, ?_⟩
            · funext y
              by_cases h1 : y = Str.ofString "at"
              · subst h1; exact htb.trans (by with_unfolding_all rfl)
              · by_cases h2 : y = Str.ofString "here"
                · subst h2; with_unfolding_all rfl
                · by_cases h3 : y = Str.ofString "holder"
                  · subst h3; with_unfolding_all rfl
                  · simp [h1, h2, h3]
            · intro i z hi hz
              rcases Nat.lt_or_ge i at_ with h | h
              · exact miss i z h hz
              · have : i = at_ := by omega
                subst this
                rw [hx] at hz; cases hz; exact hxg
          case hcls3 =>
            rintro i m nx ⟨hv, q3, P3, ph3, c3, od3, kvs3, paths3, _, D3, _⟩
            exact D3.plain
          case turn3 =>
            rintro i v m₁ nx h2 tk2 own hiv ⟨hv, q3, P3, ph3, c3, od3, kvs3, paths3, rfl, D3, M3, miss3⟩ hoff F4 N4
            obtain ⟨rfl, hod, hW3, hkl3, hsh3, hq3, hpl3, hpt3, hpy3⟩ := id D3
            rw [List.getElem?_map] at hiv
            obtain ⟨y, hyi, rfl⟩ := Option.map_eq_some_iff.mp hiv
            have hya : y ∈ adj x := hfa.mem_iff.mp (List.mem_of_getElem? hyi)
            have hyn : y < n := G.out x (hq9 x hxq) y hya
            have htk : (fa.take (i + 1)) = fa.take i ++ [y] := by rw [List.take_add_one, hyi]; rfl
            obtain ⟨il3, vs3, c33, k33, ts33, ⟨d3, u1, u2, u3, u4, u5, u6, u7, u8, u9, u10, bl3, e3, e4⟩, -⟩ := G.node y hyn
            obtain ⟨pa3, its3, cp3, hway, hpm, hint⟩ := hW3.some_ x ph3 M3.ph_
            have hpm9 : (pa3, listOf its3.toArray cp3) ∈ paths3 ++ own := List.mem_append.mpr (.inl hpm)
            have hil9 : its3.length ≤ 11 := by
              have h1 := hint.length
              have h2 := hsh3 x ph3 M3.ph_
              obtain ⟨q', rfl, hnd, hb⟩ := M3.fresh
              have h3 := nodup_le n q' hnd fun x hx => (hb x hx).1
              simp only [List.length_append, List.length_map] at h1 h2
              omega
            have hqb3 : (q3.map fun r => Value.ref (ad r)).length ≤ 9 := by
              obtain ⟨q', rfl, hnd, hb⟩ := M3.fresh
              have h3 := nodup_le n q' hnd fun x hx => (hb x hx).1
              simp only [List.length_append, List.length_map]
              omega
            have hkl9 : kvs3.length ≤ 9 := by rw [List.length_map] at hqb3; omega
            have hot : ∀ p ∈ paths3 ++ own, p.1 ≠ wt := fun p hp => (List.mem_append.mp hp).elim (hpt3 p) fun hp e => hoff p hp (wt, _) (List.mem_cons_self ..) hwt8 e.symm
            have hoy : ∀ p ∈ paths3 ++ own, p.1 ≠ wy := fun p hp => (List.mem_append.mp hp).elim (hpy3 p) fun hp e => hoff p hp (wy, _) (List.mem_cons_of_mem _ (List.mem_cons_self ..)) hwy8 e.symm
            simp only [List.cons_append] at N4
            clear F' N' F3 N3
            cases hPy : P3 y with
            | some py =>
              have hisin : (valueAt kvs3 ((y : Int) + 1)).isSome = true := by
                obtain ⟨a, its, c, e, _⟩ := hW3.some_ y py hPy
                rw [e]; rfl
              k_steps
              dsimp only [TurnPost]
              refine TurnEnd.mk ((wt, listOf (q3.map fun r => Value.ref (ad r)).toArray c3) :: (wy, od3) :: paths3) (by assumption) (by assumption) ?_ ?_ ?_
              · intro p hp
                rw [← List.cons_append, ← List.cons_append]
                exact List.mem_append.mpr (.inl hp)
              · intro p hp
                exact List.mem_cons_of_mem _ (List.mem_cons_of_mem _ (List.mem_append.mpr (.inr hp)))
              · refine ⟨some (.ref (ad y)), q3, P3, ph3, c3, od3, kvs3, paths3, ?_, D3, by rw [htk]; exact M3.old hPy, miss3⟩
                funext z
                by_cases h9 : z = Str.ofString "holder" <;> simp [h9]
            | none =>
              have hisin : (valueAt kvs3 ((y : Int) + 1)).isSome = false := by rw [hW3.none_ y hPy]; rfl
              k_steps
              dsimp only [TurnPost]
              refine TurnEnd.mk ((wt, listOf ((q3 ++ [y]).map fun r => Value.ref (ad r)).toArray (c3 + 1)) :: (wy, od9) :: (np9, listOf (its3 ++ [Value.int ((y : Int) + 1) u8]).toArray 0) :: paths3) F' N' ?_ ?_ ?_
              · intro p hp
                rw [List.map_append] at hp
                rcases List.mem_cons.mp hp with rfl | hp
                · exact List.mem_cons_of_mem _ (List.mem_cons_of_mem _ (List.mem_cons_self ..))
                · rcases List.mem_cons.mp hp with rfl | hp
                  · exact List.mem_cons_of_mem _ (List.mem_cons_of_mem _ (List.mem_cons_of_mem _ (List.mem_cons_self ..)))
                  · rcases List.mem_cons.mp hp with rfl | hp
                    · exact List.mem_cons_self ..
                    · exact List.mem_cons_of_mem _ (List.mem_cons_of_mem _ (List.mem_cons_of_mem _ (List.mem_cons_of_mem _ (List.mem_append.mpr (.inl hp)))))
              · intro p hp
                exact List.mem_cons_of_mem _ (List.mem_cons_of_mem _ (List.mem_cons_of_mem _ (List.mem_cons_of_mem _ (List.mem_append.mpr (.inr hp)))))
              · refine ⟨some (.ref (ad y)), q3 ++ [y], fun x => if x = y then some (ph3 ++ [y]) else P3 x, ph3, c3 + 1, od9, _, (np9, listOf (its3 ++ [Value.int ((y : Int) + 1) u8]).toArray 0) :: paths3, ?_, ⟨rfl, hod9, hW3.put (p := ph3 ++ [y]) (by rw [List.map_append]; exact IntsAre.app hint (.cons _ _ .nil)) (fun _ => rfl), ?_, ?_, ?_, ?_, ?_, ?_⟩, by rw [htk]; exact M3.new hPy hya hyn fun _ => rfl, ?_⟩
                · funext z
                  by_cases h9 : z = Str.ofString "holder" <;> simp [h9]
                · have h1 := stored_length_le kvs3 ((y : Int) + 1) (.ref np9)
                  rw [List.length_append, List.length_singleton]
                  omega
                · intro z p e
                  rw [List.length_append, List.length_singleton]
                  split at e
                  · cases e
                    have := hsh3 x ph3 M3.ph_
                    rw [List.length_append, List.length_singleton]
                    omega
                  · have := hsh3 z p e
                    omega
                · intro z hz
                  rcases List.mem_append.mp hz with hz | hz
                  · exact hq3 z hz
                  · rw [List.mem_singleton.mp hz]; exact hyn
                · intro p hp
                  rcases List.mem_cons.mp hp with rfl | hp
                  · rfl
                  · exact hpl3 p hp
                · intro p hp
                  rcases List.mem_cons.mp hp with rfl | hp
                  · exact fun e => Nat.lt_irrefl _ (e ▸ hnp9.2.1)
                  · exact hpt3 p hp
                · intro p hp
                  rcases List.mem_cons.mp hp with rfl | hp
                  · exact fun e => Nat.lt_irrefl _ (e ▸ hnp9.2.2.1)
                  · exact hpy3 p hp
                · intro j z hj hz
                  have hl := (List.getElem?_eq_some_iff.mp M3.at_).1
                  rw [List.getElem?_append_left (by omega)] at hz
                  exact miss3 j z hj hz
          case done3 =>
            rintro m₁ nx h2 tk2 ⟨hv, q3, P3, ph3, c3, od3, kvs3, paths3, rfl, D3, M3, miss3⟩ F4 N4
            rw [List.length_map, List.take_length] at M3
            clear F' N' F3 N3
            dsimp only
            k_steps
            refine ⟨h2, tk2, _, _, fi.length + n + 1 - (at_ + 1), rfl, F4, N4, by omega, hv, some (.ref (ad x)), at_ + 1, tb, q3, P3, c3, od3, kvs3, paths3, ?_, D3, M3.done fun y hy => hfa.mem_iff.mpr hy, miss3, ?_, ?_⟩
            · rfl
            · rfl
            · omega
      · have hdec : ¬ (at_ : Int) < ((q.map fun r => Value.ref (ad r)).length : Nat) := by rw [List.length_map]; omega
        k_steps
        show WayRes s adj rs g .none _
        refine .inl ⟨⟨_, _, rfl, rfl, Fr.keep (by assumption)⟩, fun x p hp => ?_⟩
        have hxq := B.all hge (hp.roots fun r h => hfi.mem_iff.mpr h)
        obtain ⟨i, hi⟩ := List.getElem?_of_mem hxq
        have := (List.getElem?_eq_some_iff.mp hi).1
        exact miss i x (by omega) hi
end
end Mine
end
section
open PySem PySem.W PyProof.Rows PySem.Calls PySem.Spec PyProof.V
namespace Mine
abbrev enc2 : List Int → PyData := encTuple PyData.int
def Tab2 (prog : Program) (w : World) (h : Heap) (d : Addr) (D : List (PyData × PyData)) : Prop := TabAtH (tupleKind (intKind prog w)) enc2 h d D
theorem Tab2.keeps {prog : Program} {w : World} {h h' : Heap} {d : Addr} {D : List (PyData × PyData)} (st : h.StaysIn h') (T : Tab2 prog w h d D) : Tab2 prog w h' d D := by
  obtain ⟨lo, xs, ⟨o, es, ep, h1, h2, h3, h4, h5, h6⟩, hf⟩ := T
  refine ⟨lo, xs, ⟨o, es, ep, st _ _ h1, h2, h3, h4, fun x hx => ?_, h6⟩, hf⟩
  obtain ⟨o', items, n, k1, k2⟩ := h5 x hx
  exact ⟨o', items, n, st _ _ k1, k2⟩
structure LinksAt (prog : Program) (w : World) (h : Heap) (d : Addr) (n : Nat) (adj : Nat → List Nat) (D : List (PyData × PyData)) : Prop where
  tab : Tab2 prog w h d D
  has : ∀ i j : Nat, j ∈ adj i → i < n → (lookup (enc2 [(i : Int) + 1, (j : Int) + 1]) D).isSome = true
theorem use_way {w : World} {A : Around} {s : Shared} {g : Heap} {L : Addr} {m : Str → Option Value} {news : List (Addr × Obj)} {f : Value} {args : List Value} {adj : Nat → List Nat} {rs : List Nat} {gn : Int} {Q : Value → Shared → Prop} {E : Value → Shared → Prop} {d u : Nat}
    (F : Fr g L s.heap m) (N : News g L s.heap news) (hh : A.handled = none) (hd : A.depth ≤ d) (hu : A.units ≤ u)
    (h : wpAny (model PySem.Challenge.rw_sj0194_01.row.prog w) (AA d u) (call f args) (WayRes s adj rs gn) (fun _ _ => False) s)
    (k0 : ∀ (h' : Heap) (tk : Nat), (∀ x p, Path adj rs p x → (x : Int) + 1 ≠ gn) → Fr g L h' m → News g L h' news → Q .none { s with heap := h', toks := tk })
    (k1 : ∀ (items : List Value) (p : List Nat) (x : Nat) (r : Addr) (h' : Heap) (tk n : Nat), IntsAre items (p.map fun i => ((i : Nat) : Int) + 1) → Path adj rs p x → (x : Int) + 1 = gn → (∀ p', Path adj rs p' x → p.length ≤ p'.length) →
      Fr g L h' m → News g L h' ((r, listOf items.toArray n) :: news) → (∀ p ∈ news, @Ne Nat p.1 r) → Q (.ref r) { s with heap := h', toks := tk }) :
    wpAny (model PySem.Challenge.rw_sj0194_01.row.prog w) A (call f args) Q E s := by
  refine weaken d u hh hd hu (wpAny_mono h (fun v s' hr => ?_) fun _ _ x => x.elim)
  rcases hr with ⟨⟨h', tk, rfl, rfl, st⟩, hno⟩ | ⟨items, p, x, ⟨r, h', tk, n, rfl, rfl, st, hr0, hr1⟩, h1, h2, h3, h4⟩
  · exact k0 h' tk hno (fr_stays F st) (news_stays N st)
  · exact k1 items p x r h' tk n h1 h2 h3 h4 (fr_stays F st) (news_new F N st hr0 hr1) (news_ne N hr0)
theorem ints0 {vs : List Value} (h : IntsAre vs []) : vs = [] := by cases h; rfl
theorem intsC {vs : List Value} {a : Int} {ns : List Int} (h : IntsAre vs (a :: ns)) : ∃ t us, vs = .int a t :: us ∧ IntsAre us ns := by
  cases h with
  | cons _ t r => exact ⟨t, _, rfl, r⟩
theorem ints1 {vs : List Value} {a : Int} (h : IntsAre vs [a]) : ∃ t, vs = [.int a t] := by
  obtain ⟨t, us, e, h⟩ := intsC h; subst e; have := ints0 ‹IntsAre us _›; subst this; exact ⟨t, rfl⟩
theorem ints2 {vs : List Value} {a b : Int} (h : IntsAre vs [a, b]) : ∃ t u, vs = [.int a t, .int b u] := by
  obtain ⟨t, us, e, h⟩ := intsC h; subst e; obtain ⟨u, e⟩ := ints1 ‹IntsAre us _›; subst e; exact ⟨t, u, rfl⟩
theorem ints3 {vs : List Value} {a b c : Int} (h : IntsAre vs [a, b, c]) : ∃ t u v, vs = [.int a t, .int b u, .int c v] := by
  obtain ⟨t, us, e, h⟩ := intsC h; subst e; obtain ⟨u, v, e⟩ := ints2 ‹IntsAre us _›; subst e; exact ⟨t, u, v, rfl⟩
theorem ints4 {vs : List Value} {a b c d : Int} (h : IntsAre vs [a, b, c, d]) : ∃ t u v x, vs = [.int a t, .int b u, .int c v, .int d x] := by
  obtain ⟨t, us, e, h⟩ := intsC h; subst e; obtain ⟨u, v, x, e⟩ := ints3 ‹IntsAre us _›; subst e; exact ⟨t, u, v, x, rfl⟩
theorem stopC {prog : Program} {w : World} {A : Around} {s : Shared} {E : Value → Shared → Prop} {env : Env} {ct elt iter : Expr} {x : Str} {px : Pos} {scope : Scope} {pos : Pos} {Q : Value → Shared → Prop} (h : Stop (wpAny (model prog w) A (eval (.ListComp elt [⟨.Name x px, iter, [ct], 0⟩] scope pos) env) Q E s)) : wpAny (model prog w) A (eval (.ListComp elt [⟨.Name x px, iter, [ct], 0⟩] scope pos) env) Q E s := h
theorem notin_link {w : World} {A : Around} {s : Shared} {g : Heap} {L T lk : Addr} {m : Str → Option Value} {news : List (Addr × Obj)} {n i j : Nat} {t u : Tok} {adj : Nat → List Nat} {D : List (PyData × PyData)} {Q : Value → Shared → Prop} {E : Value → Shared → Prop}
    (F : Fr g L s.heap m) (N : News g L s.heap news) (hk : LinksAt PySem.Challenge.rw_sj0194_01.row.prog w g lk n adj D) (hu : A.units + 1 < cLine) (hT : (T, tupOf [.int ((i : Int) + 1) t, .int ((j : Int) + 1) u]) ∈ news) (hj : j ∈ adj i) (hi : i < n)
    (h : ∀ tk, Q (.bool false) { s with toks := tk }) : wpAny (model PySem.Challenge.rw_sj0194_01.row.prog w) A (compareOp .NotIn (.ref T) (.ref lk)) Q E s := by
  have key : TupKeyObj (intKind PySem.Challenge.rw_sj0194_01.row.prog w) [(i : Int) + 1, (j : Int) + 1] (tupOf [.int ((i : Int) + 1) t, .int ((j : Int) + 1) u]) := TupKeyObj.made (.cons (by simp [intKind, Value.isInt]) (.cons (by simp [intKind, Value.isInt]) .nil))
  have hh := hk.has i j hj hi
  refine notin_tabH (knd := tupleKind (intKind _ w)) (k := [(i : Int) + 1, (j : Int) + 1]) (same_encTuple same_int) (tupleKind_room_in1 hu) (key.key (N.get hT)) (hk.tab.keeps F.keep) ?_
  rw [hh]
  exact h _
end Mine
end
section
open PySem PySem.W PyProof.Rows PySem.Calls PySem.Spec PyProof.V
namespace Mine
abbrev key2 (a b : Nat) : PyData := enc2 [(a : Int), (b : Int)]
structure FarAt (prog : Program) (w : World) (h : Heap) (d : Addr) (n : Nat) (f : Nat → Nat → Int) (D : List (PyData × PyData)) : Prop where
  tab : Tab2 prog w h d D
  has : ∀ a b : Nat, a < n → b < n → lookup (key2 a b) D = some (.int (f a b))
theorem FarAt.keeps {prog : Program} {w : World} {h h' : Heap} {d : Addr} {n : Nat} {f : Nat → Nat → Int} {D : List (PyData × PyData)} (st : h.StaysIn h') (T : FarAt prog w h d n f D) : FarAt prog w h' d n f D := ⟨T.tab.keeps st, T.has⟩
theorem tab_sub {prog : Program} {w : World} {K : Type} [DecidableEq K] {knd : KeyKind prog w K} {enc : K → PyData} {news news' : List (Addr × Obj)} {d : Addr} {D : List (PyData × PyData)} (T : TupTab knd enc news d D) (hs : ∀ p ∈ news, p ∈ news') : TupTab knd enc news' d D :=
  let ⟨lo, o, es, ep, xs, hm, hc, hd, he, hn, hk, hf⟩ := T
  ⟨lo, o, es, ep, xs, hs _ hm, hc, hd, he, hn, fun x hx => let ⟨okx, hmk, t⟩ := hk x hx; ⟨okx, hs _ hmk, t⟩, hf⟩
theorem far_item {w : World} {A : Around} {s : Shared} {g : Heap} {L T d : Addr} {m : Str → Option Value} {news : List (Addr × Obj)} {n a b : Nat} {t u : Tok} {f : Nat → Nat → Int} {D : List (PyData × PyData)} {value slice : PySem.Expr} {Q : Value → Shared → Prop} {E : Value → Shared → Prop}
    (F : Fr g L s.heap m) (N : News g L s.heap news) (hk : FarAt PySem.Challenge.rw_sj0194_01.row.prog w g d n f D) (hu : A.units + 1 < cLine) (hT : (T, tupOf [.int (a : Int) t, .int (b : Int) u]) ∈ news) (ha : a < n) (hb : b < n)
    (h : ∀ tv tk, Q (.int (f a b) tv) { s with toks := tk })
    (hs : subscripted slice false (.ref d) (.ref T) = operate [.ref d, .ref T] (getItem (.ref d) (.ref T)) := by with_unfolding_all rfl) (hg : ∀ r, letTemporaryGo value (.ref d) r = pure () := by intro _; with_unfolding_all rfl) :
    wpAny (model PySem.Challenge.rw_sj0194_01.row.prog w) A (subscriptTail value slice (.ref d) (.ref T)) Q E s := by
  have key : TupKeyObj (intKind PySem.Challenge.rw_sj0194_01.row.prog w) [(a : Int), (b : Int)] (tupOf [.int (a : Int) t, .int (b : Int) u]) := TupKeyObj.made (.cons (by simp [intKind, Value.isInt]) (.cons (by simp [intKind, Value.isInt]) .nil))
  refine item_tabH (knd := tupleKind (intKind _ w)) (k := [(a : Int), (b : Int)]) (same_encTuple same_int) (tupleKind_room_in1 hu) (key.key (N.get hT)) (hk.tab.keeps F.keep) (hk.has a b ha hb) (fun v hv => ?_) hs hg
  obtain ⟨t, rfl⟩ := hv.int_inv
  exact h t _
theorem min3 {prog : Program} {w : World} {A : Around} {E : Value → Shared → Prop} {s : Shared} {g : Heap} {L : Addr} {m : Str → Option Value} {news : List (Addr × Obj)} {a b c : Int} {t u x : Tok} {Q : Value → Shared → Prop} (hh : A.handled = none)
    (F : Fr g L s.heap m) (N : News g L s.heap news) (h : ∀ h' v tk, Fr g L h' m → News g L h' news → Q (.int (min (min a b) c) v) { s with heap := h', toks := tk }) :
    wpAny (model prog w) A (call (.builtin "min") [.int a t, .int b u, .int c x]) Q E s := by
  refine min_three_ints hh fun h' tk st => ?_
  have k := fun v => h h' v tk (fr_stays F st) (news_stays N st)
  by_cases h1 : b < a
  · have e1 : min a b = b := by omega
    rw [if_pos h1]
    by_cases h2 : c < b
    · rw [if_pos h2]; have := k x; rwa [e1, show min b c = c by omega] at this
    · rw [if_neg h2]; have := k u; rwa [e1, show min b c = b by omega] at this
  · have e1 : min a b = a := by omega
    rw [if_neg h1]
    by_cases h2 : c < a
    · rw [if_pos h2]; have := k x; rwa [e1, show min a c = c by omega] at this
    · rw [if_neg h2]; have := k t; rwa [e1, show min a c = a by omega] at this
inductive LaterRes (w : World) (s : Shared) (n : Nat) (f : Nat → Nat → Int) (v : Value) (s' : Shared) : Prop
  | mk (d h' tk nx D) (e1 : v = .ref d) (e2 : s' = { s with heap := h', toks := tk }) (e3 : s.heap.StaysIn h') (e4 : (∀ p ∈ nx, h'.get? p.1 = some p.2 ∧ s.heap.get? p.1 = none)) (e5 : TupTab (intKind PySem.Challenge.rw_sj0194_01.row.prog w) PyData.int nx d D) (e6 : D.length ≤ 16) (e7 : ∀ a b : Nat, a < n → b < n → lookup (key2 a b) D = some (.int (f a b))) : LaterRes w s n f v s'
theorem far_turn {prog : Program} {w : World} {g h' : Heap} {L fd : Addr} {news' own keep : List (Addr × Obj)} {D : List (PyData × PyData)} (N' : News g L h' news') (T : TupTab (intKind prog w) PyData.int news' fd D) (ho : ∀ q ∈ own, q ∈ news') (hcl : ∀ q ∈ own, q.2.cls = .type "range_iterator") (hk : ∀ q ∈ keep, q ∈ news') (hka : ∀ p ∈ keep, ∀ q ∈ own, p.1 ≠ q.1) :
    ∃ nx, (∀ p ∈ nx, p ∈ news') ∧ (∀ p ∈ nx, ∀ q ∈ own, p.1 ≠ q.1) ∧ TupTab (intKind prog w) PyData.int nx fd D ∧ ∀ q ∈ keep, q ∈ nx := by
  have hm : ∀ p : Addr × Obj, p ∈ news'.filter (fun p => own.all fun q => p.1 != q.1) ↔ p ∈ news' ∧ ∀ q ∈ own, p.1 ≠ q.1 := by
    intro p
    simp only [List.mem_filter, List.all_eq_true, bne_iff_ne]
  have sep : ∀ p ∈ news', p.2.cls ≠ .type "range_iterator" → ∀ q ∈ own, p.1 ≠ q.1 := by
    intro p hp hc q hq e
    have e1 := (N' p hp).1
    have e2 := (N' q (ho q hq)).1
    rw [e, e2] at e1
    exact hc (by rw [← Option.some.inj e1]; exact hcl q hq)
  refine ⟨news'.filter (fun p => own.all fun q => p.1 != q.1), fun p hp => ((hm p).mp hp).1, fun p hp => ((hm p).mp hp).2, ?_, fun q hq => (hm q).mpr ⟨hk q hq, hka q hq⟩⟩
  obtain ⟨lo, o, es, ep, xs, h1, hc, hd, he, hn, hks, hf⟩ := T
  refine ⟨lo, o, es, ep, xs, (hm _).mpr ⟨h1, sep _ h1 (by rw [hc.1]; decide)⟩, hc, hd, he, hn, fun x hx => ?_, hf⟩
  obtain ⟨okx, h2, t⟩ := hks x hx
  exact ⟨okx, (hm _).mpr ⟨h2, sep _ h2 (by rw [t.1]; decide)⟩, t⟩
theorem tab_ne {prog : Program} {w : World} {g h : Heap} {L fd : Addr} {news nx : List (Addr × Obj)} {D : List (PyData × PyData)} (N : News g L h news) (T : TupTab (intKind prog w) PyData.int nx fd D) (hs : ∀ p ∈ nx, p ∈ news) : ∀ q ∈ news, q.2.cls = .type "range_iterator" → q.1 ≠ fd := by
  obtain ⟨lo, o, es, ep, xs, h1, hc, hd, he, hn, hks, hf⟩ := T
  intro q hq hqc e
  have e1 := (N q hq).1
  have e2 := (N _ (hs _ h1)).1
  rw [e, e2] at e1
  have e3 := hc.1
  have e4 : q.2 = o := (Option.some.inj e1).symm
  rw [← e4, hqc] at e3
  exact absurd e3 (by decide)
theorem put_len (dk dv : PyData) (D : List (PyData × PyData)) : (putD dk dv D).length ≤ D.length + 1 := by
  rw [length_putD]; split <;> omega
theorem put_same (a b : Nat) (dv : PyData) (D : List (PyData × PyData)) : lookup (key2 a b) (putD (key2 a b) dv D) = some dv := lookup_putK_same (keyEnc_tuple keyEnc_int) [(a : Int), (b : Int)] dv D
theorem put_other {a b a' b' : Nat} (h : a' ≠ a ∨ b' ≠ b) (dv : PyData) (D : List (PyData × PyData)) : lookup (key2 a' b') (putD (key2 a b) dv D) = lookup (key2 a' b') D :=
  lookup_putK_other (keyEnc_tuple keyEnc_int) (n := [(a : Int), (b : Int)]) (k := [(a' : Int), (b' : Int)]) (by simp; omega) dv D
inductive LtJ1 (prog : Program) (w : World) (n : Nat) (f : Nat → Nat → Int) (fd : Addr) (base : Str → Option Value) (i : Nat) (m : Str → Option Value) (nx : List (Addr × Obj)) : Prop
  | mk (vo vt D) (e1 : m = (fun y => if y = Str.ofString "other" then vt else if y = Str.ofString "one" then vo else base y)) (e2 : TupTab (intKind prog w) PyData.int nx fd D) (e3 : D.length ≤ i * n) (e4 : ∀ a b : Nat, a < i → b < n → lookup (key2 a b) D = some (.int (f a b))) : LtJ1 prog w n f fd base i m nx
inductive LtJ2 (prog : Program) (w : World) (n i : Nat) (ti : Tok) (f : Nat → Nat → Int) (fd : Addr) (base : Str → Option Value) (own : List (Addr × Obj)) (j : Nat) (m : Str → Option Value) (nx : List (Addr × Obj)) : Prop
  | mk (vt D) (e1 : m = (fun y => if y = Str.ofString "other" then vt else if y = Str.ofString "one" then some (.int (i : Int) ti) else base y)) (e2 : TupTab (intKind prog w) PyData.int nx fd D) (e3 : D.length ≤ i * n + j) (e4 : (∀ a b : Nat, a < i → b < n → lookup (key2 a b) D = some (.int (f a b)))) (e5 : (∀ b : Nat, b < j → lookup (key2 i b) D = some (.int (f i b)))) (e6 : ∀ q ∈ own, q ∈ nx) : LtJ2 prog w n i ti f fd base own j m nx
section
local macro_rules | `(tactic| k_all) => `(tactic| assumption)
theorem later_spec {w : World} {s : Shared} {d : Addr} {n b e : Nat} {tn tb te : Tok} {f : Nat → Nat → Int} {D : List (PyData × PyData)} {mean : ExcName → Option Value} {mg mb : Str → Option Value}
    (X : (Mine.hd.heap_1 w.params).In s.heap) (T : Top Mine.view (looseW Mine.view [Str.ofString "SnobolError"]) mean mg mb s.heap)
    (hf : FarAt PySem.Challenge.rw_sj0194_01.row.prog w s.heap d n f D) (hn : n ≤ 4) (hb : b < n) (he : e < n) (hf0 : ∀ i j, 0 ≤ f i j) (hf1 : ∀ i j, f i j ≤ 99) :
    wpAny (model PySem.Challenge.rw_sj0194_01.row.prog w) (AA 320 320) (call (.ref 385) [.ref d, .int (n : Int) tn, .int (b : Int) tb, .int (e : Int) te]) (LaterRes w s n (fun i j => min (min 99 (f i j)) (f i b + 1 + f e j))) (fun _ _ => False) s := by
  revert T X; k_fill; intro X T
  k_with_none
  w_top off
  k_with "exec For Name Call cons nil" => refine Mine.stop ?_
  k_with "pyIter ref" => refine Mine.stop ?_
  k_with "subscriptTail Name Tuple ref ref" => (refine far_item (by k_asm) (by k_asm) hf (Nat.le_of_ble_eq_true rfl) (by k_mem) (by omega) (by omega) ?_; intro tv9 tk9)
  k_with "call builtin:min" => (refine min3 rfl (by k_asm) (by k_asm) ?_; intro h' v9 tk' F' N')
  k_with "setItem ref ref" => refine Mine.stop ?_
  refine wpAny_call ?_
  refine' enter_fn (binds := [(Str.ofString "far", .ref d), (Str.ofString "many", .int (n : Int) tn), (Str.ofString "begin", .int (b : Int) tb), (Str.ofString "end", .int (e : Int) te)]) ?k4 ?k5 ?k6 ?k7 ?k8 ?k9 ?kB ?_ ?c2 ?c3 ?c4 ?c5
  case k4 => exact X
  case k5 => exact T
  case k6 => k_is
  case k7 => k_is
  case k8 => decide
  case k9 => exact BindsTo.of_eq rfl
  case c5 => decide
  case kB => exact locs rfl
  case c2 => exact rfl
  case c3 => exact rfl
  case c4 => exact rfl
  k_whole
  intro L' h' F' N'
  (try dsimp only)
  (try k_fold)
  k_steps
  change wpAny _ _ _ _ _ _
  with_unfolding_all refine' For_invVF (by k_asm) ?k1 ?k2 ?_ ?k3 PassesOwn.never
  case k1 => exact rfl
  case k2 => exact rfl
  case k3 => intro _; rfl
  k_steps
  change wpAny _ _ _ _ _ _
  rename_i fd _ od lo hos fos hoi foi _ _ _ _ _ _ _ _ _ R9 F0 N0 _
  have T0 : TupTab (intKind PySem.Challenge.rw_sj0194_01.row.prog w) PyData.int [(fd, od)] fd [] := TupTab.ofEmpty (.head _) lo hoi
  clear hos fos hoi foi
  refine iter_range (n := n) (news := [(fd, od)]) (LtJ1 PySem.Challenge.rw_sj0194_01.row.prog w n (fun i j => min (min 99 (f i j)) (f i b + 1 + f e j)) fd (fun y => if y = Str.ofString "found" then some (.ref fd) else if y = Str.ofString "end" then some (.int (e : Int) te) else if y = Str.ofString "begin" then some (.int (b : Int) tb) else if y = Str.ofString "many" then some (.int (n : Int) tn) else if y = Str.ofString "far" then some (.ref d) else none)) rfl R9 (by omega) F0 N0 ?hj ?turn ?done
  case hj =>
    refine ⟨none, none, [], ?_, T0, Nat.zero_le _, fun a b h => absurd h (Nat.not_lt_zero _)⟩
    funext y
    by_cases h1 : y = Str.ofString "other"
    · subst h1; with_unfolding_all rfl
    · by_cases h2 : y = Str.ofString "one"
      · subst h2; with_unfolding_all rfl
      · by_cases h3 : y = Str.ofString "found"
        · subst h3; with_unfolding_all rfl
        · by_cases h4 : y = Str.ofString "end"
          · subst h4; with_unfolding_all rfl
          · by_cases h5 : y = Str.ofString "begin"
            · subst h5; with_unfolding_all rfl
            · by_cases h6 : y = Str.ofString "many"
              · subst h6; with_unfolding_all rfl
              · by_cases h7 : y = Str.ofString "far"
                · subst h7; with_unfolding_all rfl
                · have hb9 : ∀ z : Str, ¬ y = z → (y == z) = false := fun z h => by simpa using h
                  simp [h1, h2, h3, h4, h5, h6, h7, List.lookup, hb9 _ h4, hb9 _ h5, hb9 _ h6, hb9 _ h7]
  case done =>
    rintro m₁ nx h1 tk1 ⟨vo, vt, D1, rfl, T1, hl1, hD1⟩ F' N'
    k_steps
    have hD16 : D1.length ≤ 16 := Nat.le_trans hl1 (Nat.mul_le_mul hn hn)
    exact ⟨fd, h1, _, nx, D1, rfl, rfl, F'.keep, fun p hp => ⟨(N' p hp).1, (N' p hp).2.2⟩, T1, hD16, hD1⟩
  case turn =>
    rintro i ti m₁ nx h1 tk1 own hin ⟨vo, vt, D1, rfl, T1, hl1, hD1⟩ hsep hcl F' N'
    k_steps
    change wpAny _ _ _ _ _ _
    with_unfolding_all refine' For_invVF (by k_asm) ?k1 ?k2 ?_ ?k3 PassesOwn.never
    case k1 => exact rfl
    case k2 => exact rfl
    case k3 => intro _; rfl
    k_steps
    clear R9 F0 N0
    rename IsRange _ _ _ _ _ _ _ _ => R1
    rename Fr _ _ _ _ => F1
    rename News _ _ _ _ => N1
    change wpAny _ _ _ _ _ _
    refine iter_range (n := n) (news := nx ++ own) (LtJ2 PySem.Challenge.rw_sj0194_01.row.prog w n i ti (fun i j => min (min 99 (f i j)) (f i b + 1 + f e j)) fd (fun y => if y = Str.ofString "found" then some (.ref fd) else if y = Str.ofString "end" then some (.int (e : Int) te) else if y = Str.ofString "begin" then some (.int (b : Int) tb) else if y = Str.ofString "many" then some (.int (n : Int) tn) else if y = Str.ofString "far" then some (.ref d) else none) own) rfl R1 (by omega) F1 N1 ?hj ?turn ?done
    case hj =>
      refine ⟨vt, D1, ?_, tab_sub T1 fun p hp => List.mem_append.mpr (.inl hp), Nat.le_add_right_of_le hl1, hD1, fun b h => absurd h (Nat.not_lt_zero _), fun q hq => List.mem_append.mpr (.inr hq)⟩
      funext y
      by_cases h1 : y = Str.ofString "other"
      · subst h1; simp; intro h; exact absurd h (by decide)
      · by_cases h2 : y = Str.ofString "one"
        · subst h2; simp; intro h; exact absurd h (by decide)
        · simp [h1, h2]
    case done =>
      rintro m₁ nx2 h2 tk2 ⟨vt2, D2, rfl, T2, hl2, hD2, hE2, ho2⟩ F' N'
      k_steps
      obtain ⟨nx3, a1, a2, a3, -⟩ := far_turn (keep := []) N' T2 ho2 hcl (fun _ h => nomatch h) (fun _ h => nomatch h)
      refine ⟨h2, tk2, _, nx3, nx2, rfl, F', N', a1, ho2, a2, _, _, D2, rfl, a3, by rw [Nat.succ_mul]; exact hl2, fun a b' ha hb' => ?_⟩
      rcases Nat.lt_succ_iff_lt_or_eq.mp ha with ha | rfl
      · exact hD2 a b' ha hb'
      · exact hE2 b' hb'
    case turn =>
      rintro j tj m₂ nx2 h2 tk2 own2 hjn ⟨vt2, D2, rfl, T2, hl2, hD2, hE2, ho2⟩ hsep2 hcl2 F' N'
      have hne9 := tab_ne N' T2 fun p hp => List.mem_append.mpr (.inl hp)
      k_steps
      change wpAny _ _ _ _ _ _
      rename Fr _ _ _ _ => F3
      rename News _ _ _ _ => N3
      have key : TupKeyObj (intKind PySem.Challenge.rw_sj0194_01.row.prog w) [(i : Int), (j : Int)] (tupOf [.int (i : Int) ti, .int (j : Int) tj]) := TupKeyObj.made (.cons (by simp [intKind, Value.isInt]) (.cons (by simp [intKind, Value.isInt]) .nil))
      refine setItem_tupTab (knd := intKind _ w) same_int (Nat.le_of_ble_eq_true rfl) (Flat.int _ _) F3 N3 (tab_sub T2 fun p hp => .tail _ (.tail _ (.tail _ (.tail _ (List.mem_append.mpr (.inl hp)))))) (.head _) key ?_ ?_
      · rintro h4 nw4 F4 N4 T4 hk4 hs4
        k_steps
        have hsub : ∀ p ∈ nx2 ++ own2, p.1 ≠ fd → p ∈ nw4 := fun p hp hne => hs4 p (.tail _ (.tail _ (.tail _ (.tail _ hp)))) hne
        have ho4 : ∀ q ∈ own2, q ∈ nw4 := fun q hq => hsub q (List.mem_append.mpr (.inr hq)) (hne9 q (List.mem_append.mpr (.inr hq)) (hcl2 q hq))
        have ho5 : ∀ q ∈ own, q ∈ nw4 := fun q hq => hsub q (List.mem_append.mpr (.inl (ho2 q hq))) (hne9 q (List.mem_append.mpr (.inl (ho2 q hq))) (hcl q hq))
        obtain ⟨nx3, a1, a2, a3, a4⟩ := far_turn (keep := own) N4 T4 ho4 hcl2 ho5 (fun p hp => hsep2 p (ho2 p hp))
        refine ⟨h4, _, _, nx3, nw4, rfl, F4, N4, a1, ho4, a2, some (.int (j : Int) tj), _, ?_, a3, Nat.le_trans (put_len _ _ _) (Nat.succ_le_succ hl2), fun a b' ha hb' => ?_, fun b' hb' => ?_, a4⟩
        · funext y
          by_cases h1 : y = Str.ofString "other" <;> simp [h1]
        · exact (put_other (.inl (Nat.ne_of_lt ha)) _ _).trans (hD2 a b' ha hb')
        · rcases Nat.lt_succ_iff_lt_or_eq.mp hb' with hb' | rfl
          · exact (put_other (.inr (Nat.ne_of_lt hb')) _ _).trans (hE2 b' hb')
          · exact put_same _ _ _ _
      · have := Nat.mul_le_mul (Nat.le_of_lt hin) (Nat.le_refl n)
        have := Nat.mul_le_mul hn hn
        rw [PySem.sizeLine_eq]
        omega
end
end Mine
end
section
open PySem PySem.W PyProof.Rows PySem.Calls PySem.Spec
namespace Mine
section
variable {M : Model} {A : Around} {E : Value → Shared → Prop} {s : Shared}
theorem st_local {env : Env} {g : Heap} {m : Str → Option Value} {x : Str} {v : Value} {news : List (Addr × Obj)} {Q : Unit → Shared → Prop}
    (F : Fr g env.locals s.heap m) (N : News g env.locals s.heap news) (hx : env.kindOf x = some .local) (hp : (env.scope.kind == .class || (env.scope.kind == .module && env.locals != env.globals)) = false)
    (h : ∀ h', Fr g env.locals h' (fun y => if y = x then some v else m y) → News g env.locals h' news → Q () { s with heap := h', toks := s.toks + 1 }) :
    wpAny M A (storeName env x v) Q E s := by
  refine wpAny_storeName_local hx F.ns (fun h' hn hs => ?_) hp
  have hL : g.get? env.locals = none := Heap.get?_none_of_le F.above
  exact h h' ⟨hn, fun b o e => hs.extBut b o (fun q => by rw [q, hL] at e; cases e) (F.keep b o e), F.above⟩ fun p hp' => ⟨hs.extBut _ _ (N p hp').2.1 (N p hp').1, (N p hp').2⟩
theorem st_cell {env : Env} {g : Heap} {m : Str → Option Value} {x : Str} {c : Addr} {oc : Obj} {v₀ : Option Value} {v : Value} {news : List (Addr × Obj)} {Q : Unit → Shared → Prop}
    (F : Fr g env.locals s.heap m) (N : News g env.locals s.heap news) (hk : env.scope.kind = .function) (hx : env.kindOf x = some .cell) (hc : env.cells.lookup x = some c) (hm : (c, oc) ∈ news) (hd : oc.data = .cell v₀)
    (h : ∀ h' o', Fr g env.locals h' m → News g env.locals h' ((c, o') :: news.filter fun p => p.1 != c) → o'.data = .cell (some v) → Q () { s with heap := h' }) :
    wpAny M A (storeName env x v) Q E s := by
  refine wpAny_storeName_cell hk hx hc ⟨oc, (N _ hm).1, hd⟩ fun h' hv hs => ?_
  obtain ⟨o', e', hd'⟩ := hv
  have hcL : c ≠ env.locals := (N _ hm).2.1
  refine h h' o' ⟨?_, fun b o e => hs.extBut b o (fun q => ?_) (F.keep b o e), F.above⟩ (fun p hp => ?_) hd'
  · obtain ⟨oL, es, ep, hL, hr⟩ := F.ns
    exact ⟨oL, es, ep, hs.extBut _ _ (Ne.symm hcL) hL, hr⟩
  · have := (N _ hm).2.2
    rw [q, this] at e; cases e
  · rcases List.mem_cons.mp hp with rfl | hp
    · exact ⟨e', hcL, (N _ hm).2.2⟩
    · obtain ⟨h1, h2⟩ := List.mem_filter.mp hp
      have h3 : p.1 ≠ c := by simpa using h2
      exact ⟨hs.extBut _ _ h3 (N p h1).1, (N p h1).2⟩
end
end Mine
end
section
open PySem PySem.W PyProof.Rows PySem.Calls PySem.Spec
namespace Mine
inductive Kd
  | int (k : Int)
  | lst
  | any
def Kd.Is : Kd → Value → List (Addr × Obj) → Prop
  | .int k, v, _ => ∃ u, v = .int k u
  | .lst, v, nx => ∃ r n, v = .ref r ∧ (r, PySem.W.listOf (#[] : Array Value) n) ∈ nx
  | .any, _, _ => True
section
variable {w : World} {A : Around} {E : Value → Shared → Prop} {g : Heap} {L : Addr} {m : Str → Option Value} {env : Env} {mean : ExcName → Option Value} {mg mb : Str → Option Value}
structure EvOk (w : World) (A : Around) (E : Value → Shared → Prop) (g : Heap) (L : Addr) (m : Str → Option Value) (env : Env) (e : Expr) (k : Kd) : Prop where
  go : ∀ (s : Shared) (news : List (Addr × Obj)) (Q : Value → Shared → Prop), Fr g L s.heap m → News g L s.heap news →
    (∀ v h' tk nx, Fr g L h' m → News g L h' (nx ++ news) → (∀ p ∈ nx, ∀ q ∈ news, q.1 ≠ p.1) → k.Is v nx → Q v { s with heap := h', toks := tk }) →
    wpAny (model PySem.Challenge.rw_sj0194_01.row.prog w) A (eval e env) Q E s
theorem ev_int {k : Int} {q : Nat} {p : Pos} : EvOk w A E g L m env (.Constant (.int k) q p) (.int k) :=
  ⟨fun _ _ _ F N h => wpAny_Constant_int (h _ _ _ [] F N (fun _ hp => nomatch hp) ⟨_, rfl⟩)⟩
theorem ev_none {q : Nat} {p : Pos} : EvOk w A E g L m env (.Constant .none q p) .any :=
  ⟨fun _ _ _ F N h => wpAny_Constant_none (h _ _ _ [] F N (fun _ hp => nomatch hp) trivial)⟩
theorem ev_list {p : Pos} : EvOk w A E g L m env (.List [] p) .lst := by
  refine ⟨fun s news Q F N h => ?_⟩
  refine List_ ?_
  refine spliced_nil ?_
  refine newList_K F N (fun l h' F' N' l1 => ?_) (by simp)
  exact h _ _ _ [(l, _)] F' N' (fun p hp q hq => by rw [List.mem_singleton.mp hp]; exact Nat.ne_of_lt (l1 q hq)) ⟨l, _, rfl, .head _⟩
theorem ev_dict {p : Pos} (T : Top Mine.view (looseW Mine.view [Str.ofString "SnobolError"]) mean mg mb g) : EvOk w A E g L m env (.Dict [] [] p) .any := by
  refine ⟨fun s news Q F N h => ?_⟩
  refine newDict_K F N T.nolimit (fun d h' o F' N' l1 _ _ _ _ _ => ?_)
  exact h _ _ _ [(d, o)] F' N' (fun p hp q hq => by rw [List.mem_singleton.mp hp]; exact Nat.ne_of_lt (l1 q hq)) trivial
theorem ev_dict1 {a b : Str} {q1 q2 : Nat} {p1 p2 p : Pos} (T : Top Mine.view (looseW Mine.view [Str.ofString "SnobolError"]) mean mg mb g) : EvOk w A E g L m env (.Dict [some (.Constant (.str a) q1 p1)] [.Constant (.str b) q2 p2] p) .any := by
  refine ⟨fun s news Q F N h => ?_⟩
  refine Dict_made_str rfl F rfl rfl (List.cons_ne_nil _ _) (Nat.le_of_ble_eq_true rfl) fun _ => ?_
  refine pairTrees_cons_walk (Constant_str (Constant_str (pairTrees_nil_walk ?_)))
  refine kdp_made_str F N T.nolimit rfl (by simp [strPairs]) rfl fun h' o F' N' l1 _ _ _ ap => ?_
  exact h _ _ _ [(s.heap.objs.size, o)] F' N' (fun p hp q hq => by rw [List.mem_singleton.mp hp]; exact ap q hq) trivial
end
inductive AllInit (w : World) (A : Around) (E : Value → Shared → Prop) (g : Heap) (L : Addr) (m : Str → Option Value) (env : Env) (C : Addr) : List (String × Kd) → List Stmt → Prop
  | nil : AllInit w A E g L m env C [] []
  | cons {nm : String} {k : Kd} {e : Expr} {p1 p2 p3 : Pos} {l : List (String × Kd)} {r : List Stmt} (ev : EvOk w A E g L m env e k) (ht : takerIn (Mine.hd.heap_1 w.params) C (Str.ofString nm) = some none)
      (hs : swapsWith e (some (.Attribute (.Name "self" p1) (Str.ofString nm) p2)) p3.line env = pure false) (h : AllInit w A E g L m env C l r) : AllInit w A E g L m env C ((nm, k) :: l) (.Assign [.Attribute (.Name "self" p1) (Str.ofString nm) p2] e p3 :: r)
inductive StoR (w : World) (bs : List Addr) (rest : List (Addr × Obj)) : List (String × Kd) → List DictEntry → Prop
  | nil : StoR w bs rest [] []
  | cons {nm : String} {k : Kd} {l : List (String × Kd)} {es : List DictEntry} (t : Tok) (v : Value) (hv : ∃ nx, k.Is v nx ∧ ∀ p ∈ nx, p ∈ rest ∧ ∀ b ∈ bs, @Ne Nat b p.1) (h : StoR w bs rest l es) : StoR w bs rest ((nm, k) :: l) (ent w nm t v :: es)
theorem StoR.more {w : World} {bs : List Addr} {rest rest' : List (Addr × Obj)} {l : List (String × Kd)} {es : List DictEntry} (h : StoR w bs rest l es) (hs : ∀ p ∈ rest, p ∈ rest') : StoR w bs rest' l es := by
  induction h with
  | nil => exact .nil
  | cons t v hv _ ih => obtain ⟨nx, h1, h2⟩ := hv; exact .cons t v ⟨nx, h1, fun p hp => ⟨hs p (h2 p hp).1, (h2 p hp).2⟩⟩ ih
def NoKey (nm : String) (es : List DictEntry) : Prop := ∀ e ∈ es, e.key.isStr (Str.ofString nm) = false ∧ e.refKey = false
theorem getL_new {nm : String} {es : List DictEntry} (h : NoKey nm es) : getL (Str.ofString nm) es = some none := by
  unfold getL
  rw [List.find?_eq_none.mpr fun e he => by rw [(h e he).1]; decide]
  have e : es.any (·.refKey) = false := by rw [List.any_eq_false]; intro x hx; rw [(h x hx).2]; decide
  simp [e]
theorem putL_new {nm : String} {k : Int} {key v : Value} : ∀ {es : List DictEntry}, NoKey nm es → putL (Str.ofString nm) k key v es = es ++ [⟨k, key, v⟩]
  | [], _ => rfl
  | e :: r, h => by
    unfold putL
    rw [(h e (.head _)).1]
    simp only [Bool.false_eq_true, if_false]
    rw [putL_new fun x hx => h x (.tail _ hx)]
    rfl
theorem putN_new {nm : String} {n : Nat} {es : List DictEntry} (h : NoKey nm es) : putN (Str.ofString nm) es n = n + 1 := by
  unfold putN
  have e : (es.any fun x => x.key.isStr (Str.ofString nm)) = false := by rw [List.any_eq_false]; intro x hx; rw [(h x hx).1]; decide
  rw [e]; rfl
theorem isStr_ne {a b : String} {t : Tok} (h : Str.ofString a ≠ Str.ofString b) : (Value.str (Str.ofString a) t).isStr (Str.ofString b) = false := by
  show (Str.ofString a == Str.ofString b) = false
  exact beq_eq_false_iff_ne.mpr h
inductive InitPost (w : World) (g : Heap) (L : Addr) (m : Str → Option Value) (s : Shared) (x d C : Addr) (es : List DictEntry) (n : Nat) (rest : List (Addr × Obj)) (bs : List Addr) (l : List (String × Kd)) (fl : Flow) (s' : Shared) : Prop
  | mk (es2 : List DictEntry) (rest2 : List (Addr × Obj)) (h' : Heap) (tk : Nat) (e1 : fl = .next) (e2 : s' = { s with heap := h', toks := tk }) (F : Fr g L h' m) (N : News g L h' ((x, instObj C d) :: (d, dictOf (es ++ es2) (n + l.length)) :: rest2)) (hr : ∀ p ∈ rest, p ∈ rest2) (hS : StoR w bs rest2 l es2) : InitPost w g L m s x d C es n rest bs l fl s'
theorem run_init {w : World} {A : Around} {g : Heap} {m : Str → Option Value} {x d C L a : Addr} {nm0 : Str} {sc : Scope} {cd : Value} {bs : List Addr}
    (X : (Mine.hd.heap_1 w.params).In g) (hk : sc.kind = .function) (hself : (envOf nm0 sc L a cd).kindOf "self" = some .local) (hm : m "self" = some (.ref x))
    (hs : findIn (Mine.hd.heap_1 w.params) (.ref C) "__setattr__" = some (some (.builtin "object.__setattr__"))) (hp : plainOver (Mine.hd.heap_1 w.params) C = true) (hh : hasDictIn (Mine.hd.heap_1 w.params) C = true) (hxd : @Ne Nat x d) (hx : x ∈ bs) (hd : d ∈ bs) :
    ∀ (l : List (String × Kd)) (stmts : List Stmt), AllInit w A (fun _ _ => False) g L m (envOf nm0 sc L a cd) C l stmts → ∀ (s : Shared) (es : List DictEntry) (n : Nat) (rest : List (Addr × Obj)),
      (∀ p ∈ l, NoKey p.1 es) → (l.map fun p => Str.ofString p.1).Nodup → es.length + l.length ≤ 1000 → Fr g L s.heap m → News g L s.heap ((x, instObj C d) :: (d, dictOf es n) :: rest) → (∀ p ∈ rest, @Ne Nat p.1 d) → (∀ b ∈ bs, b = x ∨ b = d ∨ ∃ o, (b, o) ∈ rest) →
      wpAny (model PySem.Challenge.rw_sj0194_01.row.prog w) A (execs stmts (envOf nm0 sc L a cd)) (InitPost w g L m s x d C es n rest bs l) (fun _ _ => False) s
  | _, _, .nil, s, es, n, rest, _, _, _, F, N, _, _ => wpAny_execs_nil ⟨[], rest, s.heap, s.toks, rfl, rfl, F, by rw [List.append_nil]; exact N, fun _ h => h, .nil⟩
  | (nm, k) :: l, _ :: r, .cons ev ht hsw hA, s, es, n, rest, hno, hnd, hlen, F, N, hrd, hb => by
    refine wpAny_execs_cons (plainObj_wpAny_Assign_Attribute ?_ hsw)
    refine ev.go _ _ _ F N fun v h' tk nx F' N' hap hv => ?_
    have F' := F'
    refine nameX_L F' hm ?_ hk hself
    have hnxd : ∀ p ∈ nx, @Ne Nat p.1 d := fun p hp => Ne.symm (hap p hp (d, _) (.tail _ (.head _)))
    have hnxx : ∀ p ∈ nx, @Ne Nat p.1 x := fun p hp => Ne.symm (hap p hp (x, _) (.head _))
    have N2 : News g L h' ((x, instObj C d) :: (d, dictOf es n) :: (nx ++ rest)) := news_sub N' fun p hp => by
      rcases List.mem_cons.mp hp with rfl | hp
      · exact List.mem_append.mpr (.inr (.head _))
      · rcases List.mem_cons.mp hp with rfl | hp
        · exact List.mem_append.mpr (.inr (.tail _ (.head _)))
        · rcases List.mem_append.mp hp with hp | hp
          · exact List.mem_append.mpr (.inl hp)
          · exact List.mem_append.mpr (.inr (.tail _ (.tail _ hp)))
    have hk0 := hno (nm, k) (.head _)
    have hrd2 : ∀ p ∈ nx ++ rest, @Ne Nat p.1 d := fun p hp => (List.mem_append.mp hp).elim (hnxd p) (hrd p)
    refine set_dict (es' := es ++ [ent w nm (tk + 1) v]) (n' := n + 1) F' X N2 (InstAt.of_news N2 (.head _) (.tail _ (.head _))) rfl hs hp ht hh (by rw [getL_new hk0]; rfl) (by rw [putL_new hk0, putN_new hk0]) (.tail hxd (.head hrd2)) (by simp only [List.length_append, List.length_cons, List.length_nil] at hlen ⊢; omega) fun h'' F'' N'' => ?_
    rw [List.map_cons, List.nodup_cons] at hnd
    refine wpAny_mono (run_init X hk hself hm hs hp hh hxd hx hd l r hA _ (es ++ [ent w nm (tk + 1) v]) (n + 1) (nx ++ rest) (fun p hp' e he => ?_) hnd.2 (by simp only [List.length_append, List.length_cons, List.length_nil] at hlen ⊢; omega) F'' N'' hrd2 (fun b hb' => ?_)) (fun fl s' hP => ?_) fun _ _ e => e
    · rcases List.mem_append.mp he with he | he
      · exact hno p (.tail _ hp') e he
      · rw [List.mem_singleton.mp he]
        exact ⟨isStr_ne fun q => hnd.1 (by rw [q]; exact List.mem_map_of_mem (f := fun p : String × Kd => Str.ofString p.1) hp'), rfl⟩
    · rcases hb b hb' with h | h | ⟨o, h⟩
      · exact .inl h
      · exact .inr (.inl h)
      · exact .inr (.inr ⟨o, List.mem_append.mpr (.inr h)⟩)
    · obtain ⟨es2, rest2, h3, tk3, e1, e2, F3, N3, hr3, hS⟩ := hP
      refine ⟨ent w nm (tk + 1) v :: es2, rest2, h3, tk3, e1, e2, F3, ?_, fun p hp' => hr3 p (List.mem_append.mpr (.inr hp')), .cons _ _ ⟨nx, hv, fun p hp' => ⟨hr3 p (List.mem_append.mpr (.inl hp')), fun b hb' => ?_⟩⟩ hS⟩
      · rw [List.append_assoc] at N3
        rw [show n + ((nm, k) :: l).length = n + 1 + l.length by simp only [List.length_cons]; omega]
        exact N3
      · rcases hb b hb' with rfl | rfl | ⟨o, h⟩
        · exact hap p hp' (_, _) (.head _)
        · exact hap p hp' (_, _) (.tail _ (.head _))
        · exact hap p hp' (_, _) (.tail _ (.tail _ h))
abbrev wl : List (String × Kd) := [("width", .int 32), ("most_steps", .int 5000), ("most_depth", .int 30), ("most_length", .int 5000), ("most_items", .int 20000), ("store", .any), ("functions", .any), ("labels", .any), ("keywords", .any), ("opsyns", .any), ("inputs", .lst), ("outputs", .lst), ("traces", .lst), ("read_names", .any), ("write_names", .any), ("traced", .any), ("steps", .int 0), ("depth", .int 0), ("nested", .int 0), ("aside", .lst), ("made", .int 0), ("holders", .lst), ("evaluate", .any), ("make_code", .any), ("matcher", .any), ("kept_names", .any)]
inductive WorldIs (w : World) (od : Obj) (hl : Addr) (made : Int) : Prop
  | mk (t0 t1 t2 t3 t4 t5 t6 t7 t8 t9 t10 t11 t12 t13 t14 t15 t16 t17 t18 t19 t20 t21 t22 t23 t24 t25 : Tok) (u0 u1 u2 : Tok) (v1 v2 v3 v5 v6 v7 v8 v9 v10 v11 v12 v13 v14 v15 v16 v17 v18 v19 v22 v23 v24 v25 : Value) (e1 : od = dictOf [ent w "width" t0 (.int 32 u0), ent w "most_steps" t1 v1, ent w "most_depth" t2 v2, ent w "most_length" t3 v3, ent w "most_items" t4 (.int 20000 u1), ent w "store" t5 v5, ent w "functions" t6 v6, ent w "labels" t7 v7, ent w "keywords" t8 v8, ent w "opsyns" t9 v9, ent w "inputs" t10 v10, ent w "outputs" t11 v11, ent w "traces" t12 v12, ent w "read_names" t13 v13, ent w "write_names" t14 v14, ent w "traced" t15 v15, ent w "steps" t16 v16, ent w "depth" t17 v17, ent w "nested" t18 v18, ent w "aside" t19 v19, ent w "made" t20 (.int made u2), ent w "holders" t21 (.ref hl), ent w "evaluate" t22 v22, ent w "make_code" t23 v23, ent w "matcher" t24 v24, ent w "kept_names" t25 v25] 26) : WorldIs w od hl made
inductive WorldRes (w : World) (g : Heap) (L : Addr) (m : Str → Option Value) (nw : List (Addr × Obj)) (s : Shared) (v : Value) (s' : Shared) : Prop
  | mk (wa wd hl od h' tk n) (e1 : v = .ref wa) (e2 : s' = { s with heap := h', toks := tk }) (e3 : Fr g L h' m) (e4 : News g L h' ((wa, instObj 320 wd) :: (wd, od) :: (hl, listOf #[] n) :: nw)) (e5 : WorldIs w od hl 0) (e6 : @Ne Nat wa wd) (e7 : @Ne Nat wa hl) (e8 : @Ne Nat wd hl) (e9 : (∀ p ∈ nw, p.1 ≠ wa)) (e10 : (∀ p ∈ nw, p.1 ≠ wd)) (e11 : ∀ p ∈ nw, p.1 ≠ hl) : WorldRes w g L m nw s v s'
theorem own_back2 {g h' : Heap} {L L' : Addr} {m m' : Str → Option Value} {oL : Obj} {news : List (Addr × Obj)} (F' : Fr g L' h' m') (N : News g L' h' news) (hoL : LCg.NsObj oL m) (hg : g.objs.size ≤ L) (hm : (L, oL) ∈ news) : Fr g L h' m :=
  ⟨hoL.ns (N _ hm).1, F'.keep, hg⟩
theorem news_back {g h' : Heap} {L L' : Addr} {news nx tail : List (Addr × Obj)} (N : News g L' h' news) (ht : ∀ p ∈ tail, p.1 ≠ L) (hx : ∀ p ∈ nx, p ∈ news ∧ p.1 ≠ L) (hs : ∀ p ∈ tail, p ∈ news) : News g L h' (nx ++ tail) := fun p hp => by
  rcases List.mem_append.mp hp with hp | hp
  · exact ⟨(N _ (hx p hp).1).1, (hx p hp).2, (N _ (hx p hp).1).2.2⟩
  · exact ⟨(N _ (hs p hp)).1, ht p hp, (N _ (hs p hp)).2.2⟩
theorem ev_name {x : Str} {p : Pos} {nm0 : Str} {sc : Scope} {L a : Addr} {cd : Value} {w : World} {A : Around} {E : Value → Shared → Prop} {g : Heap} {m : Str → Option Value} {k : Int} {u : Tok} (hm : m x = some (.int k u)) (hk : sc.kind = .function) (hx : (envOf nm0 sc L a cd).kindOf x = some .local) (hd : (x == ("__debug__" : Str)) = false) :
    EvOk w A E g L m (envOf nm0 sc L a cd) (.Name x p) (.int k) := ⟨fun s _ _ F N h => nameX_L F hm (h _ s.heap s.toks [] F N (fun _ hp => nomatch hp) ⟨u, rfl⟩) hk hx hd⟩
noncomputable def ents (w : World) : List String → List Tok → List Value → List DictEntry
  | n :: ns, t :: ts, v :: vs => ent w n t v :: ents w ns ts vs
  | _, _, _ => []
theorem StoR.lists {w : World} {bs : List Addr} {rest : List (Addr × Obj)} {l : List (String × Kd)} {es : List DictEntry} (h : StoR w bs rest l es) : ∃ (ts : List Tok) (vs : List Value), es = ents w (l.map (·.1)) ts vs ∧ ts.length = l.length ∧ vs.length = l.length ∧
    ∀ (i : Nat) (k : Kd), (l.map (·.2))[i]? = some k → ∃ nx, k.Is (vs.getD i .none) nx ∧ ∀ p ∈ nx, p ∈ rest ∧ ∀ b ∈ bs, @Ne Nat b p.1 := by
  induction h with
  | nil => exact ⟨[], [], rfl, rfl, rfl, fun i k e => by simp at e⟩
  | cons t v hv _ ih =>
    obtain ⟨ts, vs, e1, e2, e3, e4⟩ := ih
    refine ⟨t :: ts, v :: vs, by rw [e1]; rfl, by simp [e2], by simp [e3], fun i k e => ?_⟩
    cases i with
    | zero => simp at e; subst e; exact hv
    | succ i => exact e4 i k (by simpa using e)
theorem lit_of {α : Type} (d : α) {l : List α} {n : Nat} (h : l.length = n) : l = (List.range n).map fun i => l.getD i d := by
  subst h
  refine List.ext_getElem? fun i => ?_
  by_cases hi : i < l.length
  · simp [hi, List.getD_eq_getElem?_getD]
  · rw [List.getElem?_eq_none (by omega), List.getElem?_eq_none (by simp; omega)]
abbrev wnames : List String := ["width", "most_steps", "most_depth", "most_length", "most_items", "store", "functions", "labels", "keywords", "opsyns", "inputs", "outputs", "traces", "read_names", "write_names", "traced", "steps", "depth", "nested", "aside", "made", "holders", "evaluate", "make_code", "matcher", "kept_names"]
theorem ents26 {w : World} {ts : List Tok} {vs : List Value} (h1 : ts.length = 26) (h2 : vs.length = 26) : ents w wnames ts vs = [ent w "width" (ts.getD 0 0) (vs.getD 0 .none), ent w "most_steps" (ts.getD 1 0) (vs.getD 1 .none), ent w "most_depth" (ts.getD 2 0) (vs.getD 2 .none), ent w "most_length" (ts.getD 3 0) (vs.getD 3 .none), ent w "most_items" (ts.getD 4 0) (vs.getD 4 .none), ent w "store" (ts.getD 5 0) (vs.getD 5 .none), ent w "functions" (ts.getD 6 0) (vs.getD 6 .none), ent w "labels" (ts.getD 7 0) (vs.getD 7 .none), ent w "keywords" (ts.getD 8 0) (vs.getD 8 .none), ent w "opsyns" (ts.getD 9 0) (vs.getD 9 .none), ent w "inputs" (ts.getD 10 0) (vs.getD 10 .none), ent w "outputs" (ts.getD 11 0) (vs.getD 11 .none), ent w "traces" (ts.getD 12 0) (vs.getD 12 .none), ent w "read_names" (ts.getD 13 0) (vs.getD 13 .none), ent w "write_names" (ts.getD 14 0) (vs.getD 14 .none), ent w "traced" (ts.getD 15 0) (vs.getD 15 .none), ent w "steps" (ts.getD 16 0) (vs.getD 16 .none), ent w "depth" (ts.getD 17 0) (vs.getD 17 .none), ent w "nested" (ts.getD 18 0) (vs.getD 18 .none), ent w "aside" (ts.getD 19 0) (vs.getD 19 .none), ent w "made" (ts.getD 20 0) (vs.getD 20 .none), ent w "holders" (ts.getD 21 0) (vs.getD 21 .none), ent w "evaluate" (ts.getD 22 0) (vs.getD 22 .none), ent w "make_code" (ts.getD 23 0) (vs.getD 23 .none), ent w "matcher" (ts.getD 24 0) (vs.getD 24 .none), ent w "kept_names" (ts.getD 25 0) (vs.getD 25 .none)] :=
  (congrArg (fun t => ents w wnames t vs) (lit_of 0 h1)).trans ((congrArg (ents w wnames _) (lit_of .none h2)).trans rfl)
theorem world_is {w : World} {ts : List Tok} {vs : List Value} {u0 u1 u2 : Tok} {hl : Addr} (h1 : ts.length = 26) (h2 : vs.length = 26) (e0 : vs.getD 0 .none = .int 32 u0) (e4 : vs.getD 4 .none = .int 20000 u1) (e20 : vs.getD 20 .none = .int 0 u2) (e21 : vs.getD 21 .none = .ref hl) : WorldIs w (dictOf (ents w wnames ts vs) 26) hl 0 := by
  rw [ents26 h1 h2, e0, e4, e20, e21]
  exact ⟨_, _, _, _, _, _, _, _, _, _, _, _, _, _, _, _, _, _, _, _, _, _, _, _, _, _, _, _, _, _, _, _, _, _, _, _, _, _, _, _, _, _, _, _, _, _, _, _, _, _, _, rfl⟩
section
local macro_rules | `(tactic| k_all) => `(tactic| assumption)
theorem world_new {w : World} {s : Shared} {g : Heap} {L : Addr} {m : Str → Option Value} {nw : List (Addr × Obj)} {mean : ExcName → Option Value} {mg mb : Str → Option Value}
    (X : (Mine.hd.heap_1 w.params).In g) (T : Top Mine.view (looseW Mine.view [Str.ofString "SnobolError"]) mean mg mb g)
    (F : Fr g L s.heap m) (N : News g L s.heap nw) :
    wpAny (model PySem.Challenge.rw_sj0194_01.row.prog w) (AA 600 600) (call (.ref 320) []) (WorldRes w g L m nw s) (fun _ _ => False) s := by
  revert T X; k_fill; intro X T
  k_with_none
  w_top off
  refine' call_cls F X N ?k4 ?k5 ?k6 ?_
  case k4 => k_is
  case k5 => k_is
  case k6 => k_is
  k_whole
  intro x' d' h' F1 N1 l1 l2
  refine' enter_fn (X.keeps F1.keep) (T.keeps F1.keep) ?k6 ?k7 ?k8 ?k9 ?kB ?_ ?c2 ?c3 ?c4 ?c5
  case k6 => k_is
  case k7 => k_is
  case k8 => decide
  case k9 => exact binds_K (X.keeps F1.keep) rfl (by k_is) rfl rfl rfl
  case c5 => decide
  case kB => exact locs rfl
  case c2 => exact rfl
  case c3 => exact rfl
  case c4 => exact rfl
  k_whole
  intro L' h'' F₁ N₁
  obtain ⟨oL, heL, hoL, hgL⟩ := own_obj F1
  have hLL : L ≠ L' := Nat.ne_of_lt (Nat.lt_of_lt_of_le F1.ns.lt F₁.above)
  have N2 : News g L' h'' ((x', instObj 320 d') :: (d', dictOf [] 0) :: (L, oL) :: nw) := by
    have := rebaseN F₁ N1
    intro p hp
    rcases List.mem_cons.mp hp with rfl | hp
    · exact this _ (.head _)
    · rcases List.mem_cons.mp hp with rfl | hp
      · exact this _ (.tail _ (.head _))
      · rcases List.mem_cons.mp hp with rfl | hp
        · exact ⟨F₁.keep _ _ heL, hLL, hgL⟩
        · exact this _ (.tail _ (.tail _ hp))
  have F' := rebase F₁ F1.keep (fr_size F1)
  have N' := N2
  have q0 : ∀ p ∈ nw, p.1 ≠ L := fun p hp => (N p hp).2.1
  have q6 : g.objs.size ≤ L := F.above
  have q1 : @Ne Nat x' L := (N1 _ (.head _)).2.1
  have q2 : @Ne Nat d' L := (N1 _ (.tail _ (.head _))).2.1
  have q3 : @Ne Nat d' x' := Nat.ne_of_lt l2
  have q4 : ∀ p ∈ nw, p.1 ≠ x' := fun p hp => Nat.ne_of_lt (Nat.lt_trans (l1 p hp) l2)
  have q5 : ∀ p ∈ nw, p.1 ≠ d' := fun p hp => Nat.ne_of_lt (l1 p hp)
  clear N2 N₁ F₁ N1 F1 N F l1 l2
  (try dsimp only)
  refine' wpAny_mono (run_init (bs := x' :: d' :: L :: nw.map (·.1)) (x := x') (d := d') (C := 320) X ?h1 ?h2 ?h3 ?h4 ?h5 ?h6 (Ne.symm q3) (.head _) (.tail _ (.head _)) wl _ ?hA _ [] 0 ((L, oL) :: nw) ?hno ?hnd ?hlen F' N' ?hrd ?hb) ?hQ (fun _ _ e => e)
  case h1 => exact rfl
  case h2 => exact rfl
  case h3 => exact rfl
  case h4 => k_is
  case h5 => k_is
  case h6 => k_is
  case hA =>
    repeat' (first | exact .nil | refine .cons (by first | exact ev_int | exact ev_none | exact ev_list | exact ev_dict T | exact ev_dict1 T | exact ev_name rfl rfl rfl (by decide)) (by k_is) (by rfl) ?_)
  case hno => exact fun _ _ _ he => nomatch he
  case hnd => decide +kernel
  case hlen => decide
  case hrd => exact List.forall_mem_cons.2 ⟨Ne.symm q2, q5⟩
  case hb =>
    intro b hb
    rcases List.mem_cons.mp hb with rfl | hb
    · exact .inl rfl
    · rcases List.mem_cons.mp hb with rfl | hb
      · exact .inr (.inl rfl)
      · rcases List.mem_cons.mp hb with rfl | hb
        · exact .inr (.inr ⟨_, .head _⟩)
        · obtain ⟨p, hp, rfl⟩ := List.mem_map.mp hb
          exact .inr (.inr ⟨_, .tail _ hp⟩)
  case hQ =>
    intro fl s' hP
    obtain ⟨es2, rest2, h3, tk3, rfl, rfl, F3, N3, hr3, hS⟩ := hP
    obtain ⟨ts, vs, rfl, k1, k2, k3⟩ := hS.lists
    obtain ⟨-, ⟨u0, e0⟩, -⟩ := k3 0 _ rfl
    obtain ⟨-, ⟨u1, e4⟩, -⟩ := k3 4 _ rfl
    obtain ⟨-, ⟨u2, e20⟩, -⟩ := k3 20 _ rfl
    obtain ⟨nx, ⟨hl, n, e21, hm⟩, hn⟩ := k3 21 _ rfl
    have hnl := hn _ hm
    have hne : ∀ b ∈ x' :: d' :: L :: nw.map (·.1), @Ne Nat b hl := hnl.2
    have hF := own_back2 F3 N3 hoL q6 (.tail _ (.tail _ (hr3 _ (.head _))))
    refine ⟨rfl, x', d', hl, dictOf (ents w wnames ts vs) 26, h3, tk3, n, rfl, rfl, hF, news_back (nx := [(x', instObj 320 d'), (d', dictOf (ents w wnames ts vs) 26), (hl, PySem.W.listOf (#[] : Array Value) n)]) N3 q0 ?_ (fun p hp => .tail _ (.tail _ (hr3 _ (.tail _ hp)))), world_is k1 k2 e0 e4 e20 e21, Ne.symm q3, hne _ (.head _), hne _ (.tail _ (.head _)), q4, q5, fun p hp => hne _ (.tail _ (.tail _ (.tail _ (List.mem_map_of_mem (f := (·.1)) hp))))⟩
    intro p hp
    rcases List.mem_cons.mp hp with rfl | hp
    · exact ⟨.head _, q1⟩
    · rcases List.mem_cons.mp hp with rfl | hp
      · exact ⟨.tail _ (.head _), q2⟩
      · rw [List.mem_singleton.mp hp]
        exact ⟨.tail _ (.tail _ hnl.1), Ne.symm (hne _ (.tail _ (.tail _ (.head _))))⟩
end
end Mine
end
section
open PySem PySem.W PyProof.Rows PySem.Calls PySem.Spec
namespace Mine
inductive NameDict (w : World) (od : Obj) (a : Addr) (j : Int) : Prop
  | mk (t1 t2 t3 t4 t5 : Tok) (e1 : od = dictOf [ent w "kind" t1 (.str (Str.ofString "item") t4), ent w "owner" t2 (.ref a), ent w "key" t3 (.int j t5)] 3) : NameDict w od a j
inductive NewRes (w : World) (g : Heap) (L : Addr) (m : Str → Option Value) (nw : List (Addr × Obj)) (C : Addr) (P : Obj → Prop) (s : Shared) (v : Value) (s' : Shared) : Prop
  | mk (n d od h' tk) (e1 : v = .ref n) (e2 : s' = { s with heap := h', toks := tk }) (e3 : Fr g L h' m) (e4 : News g L h' ((n, instObj C d) :: (d, od) :: nw)) (e5 : P od) (e6 : (∀ p ∈ nw, @Ne Nat p.1 n)) (e7 : (∀ p ∈ nw, @Ne Nat p.1 d)) : NewRes w g L m nw C P s v s'
section
local macro_rules | `(tactic| k_all) => `(tactic| assumption)
theorem name_new {w : World} {s : Shared} {g : Heap} {L a : Addr} {m : Str → Option Value} {nw : List (Addr × Obj)} {u v : Tok} {j : Int} {mean : ExcName → Option Value} {mg mb : Str → Option Value}
    (X : (Mine.hd.heap_1 w.params).In g) (T : Top Mine.view (looseW Mine.view [Str.ofString "SnobolError"]) mean mg mb g)
    (F : Fr g L s.heap m) (N : News g L s.heap nw) :
    wpAny (model PySem.Challenge.rw_sj0194_01.row.prog w) (AA 600 600) (call (.ref 117) [.str (Str.ofString "item") u, .ref a, .int j v]) (NewRes w g L m nw 117 (fun od => NameDict w od a j) s) (fun _ _ => False) s := by
  revert T X; k_fill; intro X T
  k_with_none
  w_top off
  refine' call_cls F X N ?k4 ?k5 ?k6 ?_
  case k4 => k_is
  case k5 => k_is
  case k6 => k_is
  k_whole
  intro x' d' h' F1 N1 l1 l2
  refine' enter_fn (X.keeps F1.keep) (T.keeps F1.keep) ?k6 ?k7 ?k8 ?k9 ?kB ?_ ?c2 ?c3 ?c4 ?c5
  case k6 => k_is
  case k7 => k_is
  case k8 => exact Nat.le_of_ble_eq_true rfl
  case k9 => exact BindsTo.of_eq rfl
  case c5 => decide
  case kB => exact locs rfl
  case c2 => exact rfl
  case c3 => exact rfl
  case c4 => exact rfl
  k_whole
  intro L' h'' F₁ N₁
  obtain ⟨oL, heL, hoL, hgL⟩ := own_obj F1
  have hLL : L ≠ L' := Nat.ne_of_lt (Nat.lt_of_lt_of_le F1.ns.lt F₁.above)
  have N2 : News g L' h'' ((x', instObj 117 d') :: (d', dictOf [] 0) :: (L, oL) :: nw) := by
    have := rebaseN F₁ N1
    intro p hp
    rcases List.mem_cons.mp hp with rfl | hp
    · exact this _ (.head _)
    · rcases List.mem_cons.mp hp with rfl | hp
      · exact this _ (.tail _ (.head _))
      · rcases List.mem_cons.mp hp with rfl | hp
        · exact ⟨F₁.keep _ _ heL, hLL, hgL⟩
        · exact this _ (.tail _ (.tail _ hp))
  have F' := rebase F₁ F1.keep (fr_size F1)
  have N' := N2
  have q0 : ∀ p ∈ nw, p.1 ≠ L := fun p hp => (N p hp).2.1
  have q6 : g.objs.size ≤ L := F.above
  have q1 : @Ne Nat x' L := (N1 _ (.head _)).2.1
  have q2 : @Ne Nat d' L := (N1 _ (.tail _ (.head _))).2.1
  have q3 : @Ne Nat d' x' := Nat.ne_of_lt l2
  have q4 : ∀ p ∈ nw, p.1 ≠ x' := fun p hp => Nat.ne_of_lt (Nat.lt_trans (l1 p hp) l2)
  have q5 : ∀ p ∈ nw, p.1 ≠ d' := fun p hp => Nat.ne_of_lt (l1 p hp)
  clear N2 N₁ F₁ N1 F1 N F l1 l2
  (try dsimp only)
  (try k_fold)
  k_steps
  rename Fr _ _ _ _ => F9
  rename News _ _ _ _ => N9
  have hF := own_back2 F9 N9 hoL q6 (by k_mem)
  refine' ⟨rfl, x', d', _, _, _, rfl, rfl, hF, news_back (nx := [_, _]) N9 q0 (by
    intro p hp
    rcases List.mem_cons.mp hp with rfl | hp
    · exact ⟨by k_mem, q1⟩
    · rw [List.mem_singleton.mp hp]
      exact ⟨by k_mem, q2⟩) ?c7, ?c2, q4, q5⟩
  case c7 =>
    intro p hp
    repeat (first | exact hp | refine List.Mem.tail _ ?_)
  case c2 => exact ⟨_, _, _, _, _, rfl⟩
theorem pat_new {w : World} {s : Shared} {g : Heap} {L q : Addr} {m : Str → Option Value} {nw : List (Addr × Obj)} {mean : ExcName → Option Value} {mg mb : Str → Option Value}
    (X : (Mine.hd.heap_1 w.params).In g) (T : Top Mine.view (looseW Mine.view [Str.ofString "SnobolError"]) mean mg mb g)
    (F : Fr g L s.heap m) (N : News g L s.heap nw) :
    wpAny (model PySem.Challenge.rw_sj0194_01.row.prog w) (AA 600 600) (call (.ref 54) [.ref q]) (NewRes w g L m nw 54 (fun od => ∃ t, od = dictOf [ent w "node" t (.ref q)] 1) s) (fun _ _ => False) s := by
  revert T X; k_fill; intro X T
  k_with_none
  w_top off
  refine' call_cls F X N ?k4 ?k5 ?k6 ?_
  case k4 => k_is
  case k5 => k_is
  case k6 => k_is
  k_whole
  intro x' d' h' F1 N1 l1 l2
  refine' enter_fn (X.keeps F1.keep) (T.keeps F1.keep) ?k6 ?k7 ?k8 ?k9 ?kB ?_ ?c2 ?c3 ?c4 ?c5
  case k6 => k_is
  case k7 => k_is
  case k8 => exact Nat.le_of_ble_eq_true rfl
  case k9 => exact BindsTo.of_eq rfl
  case c5 => decide
  case kB => exact locs rfl
  case c2 => exact rfl
  case c3 => exact rfl
  case c4 => exact rfl
  k_whole
  intro L' h'' F₁ N₁
  obtain ⟨oL, heL, hoL, hgL⟩ := own_obj F1
  have hLL : L ≠ L' := Nat.ne_of_lt (Nat.lt_of_lt_of_le F1.ns.lt F₁.above)
  have N2 : News g L' h'' ((x', instObj 54 d') :: (d', dictOf [] 0) :: (L, oL) :: nw) := by
    have := rebaseN F₁ N1
    intro p hp
    rcases List.mem_cons.mp hp with rfl | hp
    · exact this _ (.head _)
    · rcases List.mem_cons.mp hp with rfl | hp
      · exact this _ (.tail _ (.head _))
      · rcases List.mem_cons.mp hp with rfl | hp
        · exact ⟨F₁.keep _ _ heL, hLL, hgL⟩
        · exact this _ (.tail _ (.tail _ hp))
  have F' := rebase F₁ F1.keep (fr_size F1)
  have N' := N2
  have q0 : ∀ p ∈ nw, p.1 ≠ L := fun p hp => (N p hp).2.1
  have q6 : g.objs.size ≤ L := F.above
  have q1 : @Ne Nat x' L := (N1 _ (.head _)).2.1
  have q2 : @Ne Nat d' L := (N1 _ (.tail _ (.head _))).2.1
  have q3 : @Ne Nat d' x' := Nat.ne_of_lt l2
  have q4 : ∀ p ∈ nw, p.1 ≠ x' := fun p hp => Nat.ne_of_lt (Nat.lt_trans (l1 p hp) l2)
  have q5 : ∀ p ∈ nw, p.1 ≠ d' := fun p hp => Nat.ne_of_lt (l1 p hp)
  clear N2 N₁ F₁ N1 F1 N F l1 l2
  (try dsimp only)
  (try k_fold)
  k_steps
  rename Fr _ _ _ _ => F9
  rename News _ _ _ _ => N9
  have hF := own_back2 F9 N9 hoL q6 (by k_mem)
  refine' ⟨rfl, x', d', _, _, _, rfl, rfl, hF, news_back (nx := [_, _]) N9 q0 (by
    intro p hp
    rcases List.mem_cons.mp hp with rfl | hp
    · exact ⟨by k_mem, q1⟩
    · rw [List.mem_singleton.mp hp]
      exact ⟨by k_mem, q2⟩) ?c7, ?c2, q4, q5⟩
  case c7 =>
    intro p hp
    repeat (first | exact hp | refine List.Mem.tail _ ?_)
  case c2 => exact ⟨_, rfl⟩
end
end Mine
end
section
open PySem PySem.W PyProof.Rows PySem.Calls PySem.Spec
namespace Mine
inductive TextEnd (h₀ : Heap) (L : Addr) (s : Shared) (J : (Str → Option Value) → Prop) (own : List (Addr × Obj)) (s₂ : Shared) : Prop
  | mk (h' tk m') (e1 : s₂ = { s with heap := h', toks := tk }) (e2 : Fr h₀ L h' m') (e3 : News h₀ L h' own) (e4 : J m') : TextEnd h₀ L s J own s₂
def TextPost (h₀ : Heap) (L : Addr) (s : Shared) (J : (Str → Option Value) → Prop) (own : List (Addr × Obj)) (Q : Flow → Shared → Prop) (f : Flow) (s₂ : Shared) : Prop :=
  match f with
  | .ret v => Q (.ret v) s₂
  | .brk => Q .next s₂
  | _ => TextEnd h₀ L s J own s₂
theorem iter_text {prog : Program} {w : World} {A : Around} {E : Value → Shared → Prop} {s : Shared} {env : Env} {h₀ : Heap} {x : Str} {body : List Stmt} {Q : Flow → Shared → Prop} {xt : Str} {tx : Tok} {m₀ : Str → Option Value}
    (J : Nat → (Str → Option Value) → Prop)
    (hh : A.handled = none) (F : Fr h₀ env.locals s.heap m₀) (hj : J 0 m₀)
    (turn : ∀ i c t m₁ h tk own, xt.cps[i]? = some c → J i m₁ → Fr h₀ env.locals h (fun y => if y = x then some (.str ⟨#[c]⟩ t) else m₁ y) → News h₀ env.locals h own →
      wpAny (model prog w) A (execs body env) (TextPost h₀ env.locals s (J (i + 1)) own Q) E { s with heap := h, toks := tk })
    (done : ∀ m₁ h tk, J xt.cps.size m₁ → Fr h₀ env.locals h m₁ → News h₀ env.locals h [] → Q .next { s with heap := h, toks := tk }) :
    wpAny (model prog w) A (pyIter (.str xt tx)) (fun it s₂ => LoopAtV prog w A h₀ env x body Q E it s₂) E s := by
  refine wpAny_pyIter_str fun o St hW hst => ?_
  have W := hW A hh
  refine ⟨_, _, _, xt.cps.size, _, _, m₀, [], fun i m nx => J i m ∧ nx = [], rfl, W, ?_, ?_, ?_, hst, F.push _, (fun p hp => nomatch hp), ⟨hj, rfl⟩, ?_, ?_⟩
  · intro hm
    exact absurd F.ns.lt (List.mem_singleton.mp hm ▸ Nat.lt_irrefl _)
  · intro b hb
    rw [List.mem_singleton.mp hb]
    exact next_is_new F
  · intro p hp
    exact nomatch hp
  · rintro i v m₁ news₁ s₁ own ⟨hh', tk', rfl⟩ hin ⟨c, u, hc, rfl⟩ ⟨hJ, rfl⟩ hoff hown hget hfp hst F₁ N₁
    have N₂ : News h₀ env.locals hh' own := fun p hp => N₁ p (by simpa using hp)
    refine wpAny_mono (turn i c u m₁ hh' tk' own hc hJ F₁ N₂) (fun f s₂ p => ?_) fun _ _ e => e
    have fin : TextEnd h₀ env.locals s (J (i + 1)) own s₂ → LoopStepU h₀ env.locals [s.heap.objs.size] own (fun m nx => J (i + 1) m ∧ nx = []) { s with heap := hh', toks := tk' } .next s₂ := by
      rintro ⟨h', tk, m', e, F', N', hm⟩
      exact ⟨rfl, h', tk, m', [], e, F', fun p hp => N' p (by simpa using hp), fun p hp => (nomatch hp), hm, rfl⟩
    cases f with
    | ret v => exact .ret p
    | brk => exact .brk p
    | next => exact .next (fin p)
    | cont => exact .cont (fin p)
  · rintro h' tk m' news' F' N' _ ⟨hJ, rfl⟩
    exact done m' h' tk hJ F' N'
end Mine
end
section
open PySem PySem.W PyProof.Rows PySem.Calls PySem.Spec
namespace Mine
theorem txt2 : Txt.item (Str.ofString "2") 0 = Str.ofString "2" := by kernel_rfl
theorem text0 {prog : Program} {w : World} {A : Around} {E : Value → Shared → Prop} {s : Shared} {t u : Tok} {value slice : PySem.Expr} {Q : Value → Shared → Prop}
    (h : Q (.str (Str.ofString "2") s.toks) { s with toks := s.toks + 1 })
    (hs : subscripted slice false (.str (Str.ofString "2") t) (.int 0 u) = operate [.str (Str.ofString "2") t, .int 0 u] (getItem (.str (Str.ofString "2") t) (.int 0 u)) := by with_unfolding_all rfl)
    (ht : ∀ r, letTemporaryGo value (.str (Str.ofString "2") t) r = pure () := by intro _; with_unfolding_all rfl) :
    wpAny (model prog w) A (subscriptTail value slice (.str (Str.ofString "2") t) (.int 0 u)) Q E s :=
  item_str (by decide) (by decide) (by decide) (fun _ => by rw [txt2]; exact h) hs ht
theorem inSigns {prog : Program} {w : World} {A : Around} {E : Value → Shared → Prop} {s : Shared} {t u : Tok} {Q : Value → Shared → Prop}
    (h : Q (.bool false) s) : wpAny (model prog w) A (compareOp .In (.str (Str.ofString "2") t) (.str (Str.ofString "+-") u)) Q E s := in_str (by
  have e : (!(Builtin.Str.occurrences (Str.ofString "+-") (Str.ofString "2") 0 (Str.ofString "+-").length 1).isEmpty) = false := by kernel_rfl
  rw [e]; exact h)
theorem ord2 {prog : Program} {w : World} {A : Around} {E : Value → Shared → Prop} {s : Shared} {t : Tok} {Q : Value → Shared → Prop}
    (h : Q (.int 50 s.toks) { s with toks := s.toks + 1 }) : wpAny (model prog w) A (call (.builtin "ord") [.str (Str.ofString "2") t]) Q E s := by
  have e : Str.ofString "2" = ⟨#[50]⟩ := by kernel_rfl
  rw [e]
  exact P.ord_of_char h
section
theorem fits_spec {w : World} {s : Shared} {t u : Tok} {mean : ExcName → Option Value} {mg mb : Str → Option Value}
    (X : (Mine.hd.heap_1 w.params).In s.heap) (T : Top Mine.view (looseW Mine.view [Str.ofString "SnobolError"]) mean mg mb s.heap) :
    wpAny (model PySem.Challenge.rw_sj0194_01.row.prog w) (AA 700 700) (call (.ref 163) [.int 2 t, .int 32 u]) (ValRes s (.bool true)) (fun _ _ => False) s := by
  revert T X; k_fill; intro X T
  k_with_none
  w_top off
  refine wpAny_call ?_
  refine' enter_fn ?k4 ?k5 ?k6 ?k7 ?k8 ?k9 ?kB ?_ ?c2 ?c3 ?c4 ?c5
  case k4 => exact X
  case k5 => exact T
  case k6 => k_is
  case k7 => k_is
  case k8 => decide
  case k9 => exact BindsTo.of_eq rfl
  case c5 => decide
  case kB => exact locs rfl
  case c2 => exact rfl
  case c3 => exact rfl
  case c4 => exact rfl
  k_whole
  intro L' h' F' N'
  (try dsimp only)
  (try k_fold)
  k_steps
  exact ⟨_, _, rfl, rfl, Fr.keep (by k_asm)⟩
inductive TwoRes (s : Shared) (v : Value) (s' : Shared) : Prop
  | mk (t) (e1 : ValRes s (.int 2 t) v s') : TwoRes s v s'
theorem whole_spec {w : World} {s : Shared} {t u : Tok} {mean : ExcName → Option Value} {mg mb : Str → Option Value}
    (X : (Mine.hd.heap_1 w.params).In s.heap) (T : Top Mine.view (looseW Mine.view [Str.ofString "SnobolError"]) mean mg mb s.heap) :
    wpAny (model PySem.Challenge.rw_sj0194_01.row.prog w) (AA 690 690) (call (.ref 170) [.str (Str.ofString "2") t, .int 32 u]) (TwoRes s) (fun _ _ => False) s := by
  revert T X; k_fill; intro X T
  k_with_none
  w_top off
  k_with "call builtin:ord" => refine ord2 ?_
  k_with "subscriptTail Name Constant str int" => refine text0 ?_
  k_with "compareOp In str str" => refine inSigns ?_
  k_with "pyIter str" => refine Mine.stop ?_
  k_with "call ref" => (refine use_val (d := 700) (u := 700) (by k_asm) (by k_asm) rfl (Nat.le_of_ble_eq_true rfl) (Nat.le_of_ble_eq_true rfl) (fits_spec (X.keeps (Fr.keep (by k_asm))) (T.keeps (Fr.keep (by k_asm)))) ?_; intro h' tk' F' N')
  refine wpAny_call ?_
  refine' enter_fn ?k4 ?k5 ?k6 ?k7 ?k8 ?k9 ?kB ?_ ?c2 ?c3 ?c4 ?c5
  case k4 => exact X
  case k5 => exact T
  case k6 => k_is
  case k7 => k_is
  case k8 => decide
  case k9 => exact BindsTo.of_eq rfl
  case c5 => decide
  case kB => exact locs rfl
  case c2 => exact rfl
  case c3 => exact rfl
  case c4 => exact rfl
  k_whole
  intro L' h' F' N'
  (try dsimp only)
  (try k_fold)
  k_steps
  change wpAny _ _ _ _ _ _
  rename Fr _ _ _ _ => F0
  refine iter_text (fun i m => ∃ sv nt, m = fun y => if y = Str.ofString "sign" then sv else if y = Str.ofString "number" then some (.int (if i = 0 then 0 else 2) nt) else if y = Str.ofString "digits" then some (.str (Str.ofString "2") t) else List.lookup y [(Str.ofString "width", Value.int 32 u), (Str.ofString "text", .str (Str.ofString "2") t)]) rfl F0 ?hj ?turn ?done
  case hj =>
    refine ⟨none, ?tt, ?hm⟩
    case hm =>
      funext y
      by_cases h1 : y = Str.ofString "sign"
      · subst h1; with_unfolding_all rfl
      · rw [if_neg h1]; with_unfolding_all rfl
  case done =>
    rintro m₁ h1 tk1 ⟨sv, nt, rfl⟩ F' N'
    replace F' := (show Fr s.heap L' h1 (fun y => if y = Str.ofString "sign" then sv else if y = Str.ofString "number" then some (.int 2 nt) else if y = Str.ofString "digits" then some (.str (Str.ofString "2") t) else List.lookup y [(Str.ofString "width", Value.int 32 u), (Str.ofString "text", .str (Str.ofString "2") t)]) from F')
    k_steps
    exact ⟨_, _, _, rfl, rfl, Fr.keep (by assumption)⟩
  case turn =>
    rintro i c ts m₁ h1 tk1 own hc ⟨sv, nt, rfl⟩ F' N'
    have hi : i = 0 := by
      rcases i with _ | i
      · rfl
      · have h9 : (Str.ofString "2").cps[i + 1]? = none := by rw [Array.getElem?_eq_none]; show 1 ≤ i + 1; omega
        rw [h9] at hc; cases hc
    subst hi
    have hc2 : (⟨#[c]⟩ : Str) = Str.ofString "2" := by
      have h9 : (Str.ofString "2").cps[0]? = some 50 := by kernel_rfl
      rw [h9] at hc; cases hc; kernel_rfl
    rw [hc2] at F'
    simp only [if_true] at F'
    k_steps
    rename Fr _ _ _ _ => F9
    rename News _ _ _ _ => N9
    refine ⟨_, _, _, rfl, F9, N9, some (.str (Str.ofString "2") ts), ?tt2, ?hm2⟩
    case hm2 =>
      funext y
      by_cases h1 : y = Str.ofString "sign"
      · subst h1; with_unfolding_all rfl
      · by_cases h2 : y = Str.ofString "number"
        · subst h2; with_unfolding_all rfl
        · simp only [if_neg h1, if_neg h2]
end
end Mine
end
section
open PySem PySem.W PyProof.Rows PySem.Calls PySem.Spec
namespace Mine
theorem use_two {w : World} {A : Around} {s : Shared} {g : Heap} {L : Addr} {m : Str → Option Value} {news : List (Addr × Obj)} {f : Value} {args : List Value} {Q : Value → Shared → Prop} {E : Value → Shared → Prop} {d u : Nat}
    (F : Fr g L s.heap m) (N : News g L s.heap news) (hh : A.handled = none) (hd : A.depth ≤ d) (hu : A.units ≤ u)
    (h : wpAny (model PySem.Challenge.rw_sj0194_01.row.prog w) (AA d u) (call f args) (TwoRes s) (fun _ _ => False) s)
    (k : ∀ t h' tk, Fr g L h' m → News g L h' news → Q (.int 2 t) { s with heap := h', toks := tk }) :
    wpAny (model PySem.Challenge.rw_sj0194_01.row.prog w) A (call f args) Q E s := by
  refine weaken d u hh hd hu (wpAny_mono h (fun v s' hr => ?_) fun _ _ x => x.elim)
  obtain ⟨t, h', tk, rfl, rfl, st⟩ := hr
  exact k t h' tk (fr_stays F st) (news_stays N st)
inductive BndRes (s : Shared) (v : Value) (s' : Shared) : Prop
  | mk (bl tp h' tk n t1 t2) (e1 : v = .ref bl) (e2 : s' = { s with heap := h', toks := tk }) (e3 : s.heap.StaysIn h') (e4 : s.heap.get? bl = none) (e5 : s.heap.get? tp = none) (e6 : h'.get? bl = some (listOf #[.ref tp] n)) (e7 : h'.get? tp = some (tupOf [.int 1 t1, .int 2 t2])) : BndRes s v s'
theorem bnd_end {s : Shared} {L bl tp : Addr} {h' : Heap} {m : Str → Option Value} {news : List (Addr × Obj)} {n tk : Nat} {t1 t2 : Tok} (F : Fr s.heap L h' m) (N : News s.heap L h' news) (hm : (bl, listOf #[.ref tp] n) ∈ news) (hm2 : (tp, tupOf [.int 1 t1, .int 2 t2]) ∈ news) :
    BndRes s (.ref bl) ⟨h', s.gens, s.drawn, tk, s.os⟩ := ⟨bl, tp, h', tk, n, t1, t2, rfl, rfl, F.keep, (N _ hm).2.2, (N _ hm2).2.2, (N _ hm).1, (N _ hm2).1⟩
section
theorem whole_in_spec {w : World} {s : Shared} {t u : Tok} {mean : ExcName → Option Value} {mg mb : Str → Option Value}
    (X : (Mine.hd.heap_1 w.params).In s.heap) (T : Top Mine.view (looseW Mine.view [Str.ofString "SnobolError"]) mean mg mb s.heap) :
    wpAny (model PySem.Challenge.rw_sj0194_01.row.prog w) (AA 680 680) (call (.ref 255) [.str (Str.ofString "2") t, .int 32 u]) (TwoRes s) (fun _ _ => False) s := by
  revert T X; k_fill; intro X T
  k_with_none
  w_top off
  k_with "call ref" => (refine use_two (d := 690) (u := 690) (by k_asm) (by k_asm) rfl (Nat.le_of_ble_eq_true rfl) (Nat.le_of_ble_eq_true rfl) (whole_spec (X.keeps (Fr.keep (by k_asm))) (T.keeps (Fr.keep (by k_asm)))) ?_; intro t9 h' tk' F' N')
  refine wpAny_call ?_
  refine' enter_fn ?k4 ?k5 ?k6 ?k7 ?k8 ?k9 ?kB ?_ ?c2 ?c3 ?c4 ?c5
  case k4 => exact X
  case k5 => exact T
  case k6 => k_is
  case k7 => k_is
  case k8 => decide
  case k9 => exact BindsTo.of_eq rfl
  case c5 => decide
  case kB => exact locs rfl
  case c2 => exact rfl
  case c3 => exact rfl
  case c4 => exact rfl
  k_whole
  intro L' h' F' N'
  (try dsimp only)
  (try k_fold)
  k_steps
  exact ⟨_, _, _, rfl, rfl, Fr.keep (by k_asm)⟩
theorem bounds_spec {w : World} {s : Shared} {t u : Tok} {mean : ExcName → Option Value} {mg mb : Str → Option Value}
    (X : (Mine.hd.heap_1 w.params).In s.heap) (T : Top Mine.view (looseW Mine.view [Str.ofString "SnobolError"]) mean mg mb s.heap) :
    wpAny (model PySem.Challenge.rw_sj0194_01.row.prog w) (AA 670 670) (call (.ref 262) [.str (Str.ofString "2") t, .int 32 u]) (BndRes s) (fun _ _ => False) s := by
  revert T X; k_fill; intro X T
  k_with_none
  w_top off
  k_with "call ref" => (refine use_two (d := 680) (u := 680) (by k_asm) (by k_asm) rfl (Nat.le_of_ble_eq_true rfl) (Nat.le_of_ble_eq_true rfl) (whole_in_spec (X.keeps (Fr.keep (by k_asm))) (T.keeps (Fr.keep (by k_asm)))) ?_; intro t9 h' tk' F' N')
  refine wpAny_call ?_
  refine' enter_fn ?k4 ?k5 ?k6 ?k7 ?k8 ?k9 ?kB ?_ ?c2 ?c3 ?c4 ?c5
  case k4 => exact X
  case k5 => exact T
  case k6 => k_is
  case k7 => k_is
  case k8 => decide
  case k9 => exact BindsTo.of_eq rfl
  case c5 => decide
  case kB => exact locs rfl
  case c2 => exact rfl
  case c3 => exact rfl
  case c4 => exact rfl
  k_whole
  intro L' h' F' N'
  (try dsimp only)
  (try k_fold)
  k_steps
  exact bnd_end (by k_asm) (by k_asm) (by k_mem) (by k_mem)
end
end Mine
end
section
open PySem PySem.W PyProof.Rows PySem.Calls PySem.Spec
namespace Mine
def But (ds : List Addr) (h h' : Heap) : Prop := ∀ c o, c ∉ ds → h.get? c = some o → h'.get? c = some o
theorem But.fr {g h h' : Heap} {L : Addr} {m : Str → Option Value} {ds : List Addr} (B : But ds h h') (F : Fr g L h m) (hd : ∀ d ∈ ds, g.get? d = none) (hL : L ∉ ds) : Fr g L h' m := by
  obtain ⟨oL, es, ep, e, hr⟩ := F.ns
  refine ⟨⟨oL, es, ep, B _ _ hL e, hr⟩, fun b o e => B b o (fun hm => ?_) (F.keep b o e), F.above⟩
  rw [hd b hm] at e; cases e
theorem But.news {g h h' : Heap} {L : Addr} {ds : List Addr} {news : List (Addr × Obj)} (B : But ds h h') (N : News g L h news) (hn : ∀ p ∈ news, p.1 ∉ ds) : News g L h' news :=
  fun p hp => ⟨B _ _ (hn p hp) (N p hp).1, (N p hp).2⟩
theorem stays_hide {g h : Heap} {d : Addr} (st : g.StaysIn h) (hd : g.get? d = none) : g.StaysIn (h.hide d) := fun b o e => by
  have hb : b ≠ d := fun q => by rw [q, hd] at e; cases e
  exact (Heap.hide_ne _ hb).trans (st b o e)
theorem but1 {h h' : Heap} {d L : Addr} {m : Str → Option Value} (F : Fr (h.hide d) L h' m) : But [d] h h' := fun c o hc e => F.keep c o ((Heap.hide_ne _ (fun q => hc (by simp [q]))).trans e)
theorem but2 {h h' : Heap} {d b L : Addr} {m : Str → Option Value} (F : Fr ((h.hide d).hide b) L h' m) : But [d, b] h h' := fun c o hc e => F.keep c o ((Heap.hide_ne _ (fun q => hc (by simp [q]))).trans ((Heap.hide_ne _ (fun q => hc (by simp [q]))).trans e))
theorem but_drop {h h' : Heap} {ds : List Addr} {b : Addr} {o : Obj} (B : But (b :: ds) h h') (h1 : h.get? b = some o) (h2 : h'.get? b = some o) : But ds h h' := fun c o' hc e => by
  by_cases q : c = b
  · subst q; rw [h1] at e; cases e; exact h2
  · exact B c o' (by simp [q, hc]) e
inductive NextRes (w : World) (s : Shared) (wd hl : Addr) (made : Int) (v : Value) (s' : Shared) : Prop
  | mk (t : Tok) (h' : Heap) (tk : Nat) (od' : Obj) (e1 : v = .int (made + 1) t) (e2 : s' = { s with heap := h', toks := tk }) (e3 : But [wd] s.heap h') (e4 : h'.get? wd = some od') (e5 : WorldIs w od' hl (made + 1)) : NextRes w s wd hl made v s'
inductive HeldRes (s : Shared) (hl a : Addr) (hs : List Value) (v : Value) (s' : Shared) : Prop
  | mk (h' : Heap) (tk n : Nat) (e1 : v = .ref a) (e2 : s' = { s with heap := h', toks := tk }) (e3 : But [hl] s.heap h') (e4 : h'.get? hl = some (PySem.W.listOf (hs ++ [Value.ref a]).toArray n)) : HeldRes s hl a hs v s'
theorem next_end {w : World} {s : Shared} {wa wd hl L' : Addr} {od : Obj} {made : Int} {t : Tok} {h' : Heap} {m : Str → Option Value} {news : List (Addr × Obj)} {oi : Obj} {tk : Nat}
    (F : Fr ((s.heap.hide wd).hide wa) L' h' m) (N : News ((s.heap.hide wd).hide wa) L' h' news) (h1 : s.heap.get? wa = some oi) (m1 : (wa, oi) ∈ news) (m2 : (wd, od) ∈ news) (W : WorldIs w od hl (made + 1)) :
    NextRes w s wd hl made (.int (made + 1) t) { s with heap := h', toks := tk } :=
  ⟨t, h', tk, od, rfl, rfl, but_drop (b := wa) (fun c o hc e => but2 F c o (fun hm => hc (by simp at hm ⊢; rcases hm with rfl | rfl <;> simp)) e) h1 (N _ m1).1, (N _ m2).1, W⟩
section
local macro_rules | `(tactic| k_all) => `(tactic| assumption)
theorem next_spec {w : World} {s : Shared} {g : Heap} {wa wd hl : Addr} {od : Obj} {made : Int} {mean : ExcName → Option Value} {mg mb : Str → Option Value}
    (X : (Mine.hd.heap_1 w.params).In g) (T : Top Mine.view (looseW Mine.view [Str.ofString "SnobolError"]) mean mg mb g)
    (st : g.StaysIn s.heap) (ga : g.get? wa = none) (gd : g.get? wd = none) (h1 : s.heap.get? wa = some (instObj 320 wd)) (h2 : s.heap.get? wd = some od) (W : WorldIs w od hl made) (hne : @Ne Nat wa wd) (hm0 : 0 ≤ made) (hm1 : made ≤ 100) :
    wpAny (model PySem.Challenge.rw_sj0194_01.row.prog w) (AA 600 600) (call (.ref 331) [.ref wa]) (NextRes w s wd hl made) (fun _ _ => False) s := by
  have X0 := X.keeps st
  have T0 := T.keeps st
  have sth : g.StaysIn ((s.heap.hide wd).hide wa) := stays_hide (stays_hide st gd) ga
  have X1 := X.keeps sth
  have T1 := T.keeps sth
  clear X T
  obtain ⟨t0, t1, t2, t3, t4, t5, t6, t7, t8, t9, t10, t11, t12, t13, t14, t15, t16, t17, t18, t19, t20, t21, t22, t23, t24, t25, u0, u1, u2, v1, v2, v3, v5, v6, v7, v8, v9, v10, v11, v12, v13, v14, v15, v16, v17, v18, v19, v22, v23, v24, v25, rfl⟩ := W
  revert T0 X0 T1 X1; k_fill; intro X0 T0 X1 T1
  k_with_none
  w_top off
  refine wpAny_call ?_
  refine' enter_fn ?k4 ?k5 ?k6 ?k7 ?k8 ?k9 ?kB ?_ ?c2 ?c3 ?c4 ?c5
  case k4 => exact X0
  case k5 => exact T0
  case k6 => k_is
  case k7 => k_is
  case k8 => decide
  case k9 => exact BindsTo.of_eq rfl
  case c5 => decide
  case kB => exact locs rfl
  case c2 => exact rfl
  case c3 => exact rfl
  case c4 => exact rfl
  clear X0 T0
  k_whole
  intro L' h' F₁ N₁
  have h1' : (s.heap.hide wd).get? wa = some (instObj 320 wd) := (Heap.hide_ne _ hne).trans h1
  have F' := thawF (b := wa) (thawF (b := wd) F₁)
  have N' := thawN (thawF (b := wd) F₁) (thawN F₁ N₁ h2) h1'
  have hne' : @Ne Nat wd wa := Ne.symm hne
  clear F₁ N₁
  (try dsimp only)
  (try k_fold)
  k_steps
  show NextRes w s wd hl made (.int (made + 1) _) _
  exact next_end (by k_asm) (by k_asm) h1 (by k_mem) (by k_mem) ⟨_, _, _, _, _, _, _, _, _, _, _, _, _, _, _, _, _, _, _, _, _, _, _, _, _, _, _, _, _, _, _, _, _, _, _, _, _, _, _, _, _, _, _, _, _, _, _, _, _, _, _, rfl⟩
theorem held_end {s : Shared} {hl a L' : Addr} {hs : List Value} {h' : Heap} {m : Str → Option Value} {news : List (Addr × Obj)} {n tk : Nat}
    (F : Fr (s.heap.hide hl) L' h' m) (N : News (s.heap.hide hl) L' h' news) (m1 : (hl, PySem.W.listOf (hs ++ [Value.ref a]).toArray n) ∈ news) :
    HeldRes s hl a hs (.ref a) { s with heap := h', toks := tk } := ⟨h', tk, n, rfl, rfl, but1 F, (N _ m1).1⟩
end
section
local macro_rules | `(tactic| k_all) => `(tactic| assumption)
local macro_rules | `(tactic| k_inst) => `(tactic| (refine' Mine.inst_frozen ?F ?h1 ?h2; (case F => k_asm); (case h1 => assumption); (case h2 => assumption)))
theorem held_spec {w : World} {s : Shared} {g : Heap} {wa wd hl a : Addr} {od : Obj} {made : Int} {hs : List Value} {n : Nat} {mean : ExcName → Option Value} {mg mb : Str → Option Value}
    (X : (Mine.hd.heap_1 w.params).In g) (T : Top Mine.view (looseW Mine.view [Str.ofString "SnobolError"]) mean mg mb g)
    (st : g.StaysIn s.heap) (gl : g.get? hl = none) (h1 : s.heap.get? wa = some (instObj 320 wd)) (h2 : s.heap.get? wd = some od) (h3 : s.heap.get? hl = some (PySem.W.listOf hs.toArray n)) (W : WorldIs w od hl made) (n1 : @Ne Nat wa hl) (n2 : @Ne Nat wd hl) (hlen : hs.length ≤ 100) :
    wpAny (model PySem.Challenge.rw_sj0194_01.row.prog w) (AA 600 600) (call (.ref 338) [.ref wa, .ref a]) (HeldRes s hl a hs) (fun _ _ => False) s := by
  have X0 := X.keeps st
  have T0 := T.keeps st
  have sth : g.StaysIn (s.heap.hide hl) := stays_hide st gl
  have X1 := X.keeps sth
  have T1 := T.keeps sth
  clear X T
  obtain ⟨t0, t1, t2, t3, t4, t5, t6, t7, t8, t9, t10, t11, t12, t13, t14, t15, t16, t17, t18, t19, t20, t21, t22, t23, t24, t25, u0, u1, u2, v1, v2, v3, v5, v6, v7, v8, v9, v10, v11, v12, v13, v14, v15, v16, v17, v18, v19, v22, v23, v24, v25, rfl⟩ := W
  have h1' := (Heap.hide_ne s.heap n1).trans h1
  have h2' := (Heap.hide_ne s.heap n2).trans h2
  revert T0 X0 T1 X1; k_fill; intro X0 T0 X1 T1
  k_with_none
  w_top off
  k_with "call builtin:list.append" => (refine append1 (by k_asm) (by k_asm) (by k_upd) (by omega) ?_; intro h' F' N')
  refine wpAny_call ?_
  refine' enter_fn ?k4 ?k5 ?k6 ?k7 ?k8 ?k9 ?kB ?_ ?c2 ?c3 ?c4 ?c5
  case k4 => exact X0
  case k5 => exact T0
  case k6 => k_is
  case k7 => k_is
  case k8 => decide
  case k9 => exact BindsTo.of_eq rfl
  case c5 => decide
  case kB => exact locs rfl
  case c2 => exact rfl
  case c3 => exact rfl
  case c4 => exact rfl
  clear X0 T0
  k_whole
  intro L' h' F₁ N₁
  have F' := thawF (b := hl) F₁
  have N' := thawN F₁ N₁ h3
  clear F₁ N₁ h1 h2 h3
  (try dsimp only)
  (try k_fold)
  k_steps
  show HeldRes s hl a hs (.ref a) _
  exact held_end (by k_asm) (by k_asm) (by k_mem)
end
end Mine
end
section
open PySem PySem.W PyProof.Rows PySem.Calls PySem.Spec
namespace Mine
inductive BndAt (h : Heap) (bl tp : Addr) : Prop
  | mk (n : Nat) (t1 t2 : Tok) (e1 : h.get? bl = some (PySem.W.listOf #[.ref tp] n)) (e2 : h.get? tp = some (tupOf [.int 1 t1, .int 2 t2])) : BndAt h bl tp
inductive IntRes (s : Shared) (k : Int) (v : Value) (s' : Shared) : Prop
  | mk (t) (e1 : ValRes s (.int k t) v s') : IntRes s k v s'
theorem size_end {s : Shared} {bl tp L' : Addr} {o1 o2 : Obj} {h' : Heap} {m : Str → Option Value} {news : List (Addr × Obj)} {t : Tok} {tk : Nat}
    (F : Fr ((s.heap.hide tp).hide bl) L' h' m) (N : News ((s.heap.hide tp).hide bl) L' h' news) (h1 : s.heap.get? bl = some o1) (h2 : s.heap.get? tp = some o2) (m1 : (bl, o1) ∈ news) (m2 : (tp, o2) ∈ news) :
    IntRes s 2 (.int 2 t) { s with heap := h', toks := tk } := by
  refine ⟨t, h', tk, rfl, rfl, fun b o e => ?_⟩
  by_cases q : b = bl
  · subst q; rw [h1] at e; cases e; exact (N _ m1).1
  · by_cases q' : b = tp
    · subst q'; rw [h2] at e; cases e; exact (N _ m2).1
    · exact F.keep b o ((Heap.hide_ne _ q).trans ((Heap.hide_ne _ q').trans e))
section
local macro_rules | `(tactic| k_all) => `(tactic| assumption)
theorem size_spec {w : World} {s : Shared} {bl tp : Addr} {mean : ExcName → Option Value} {mg mb : Str → Option Value}
    (X : (Mine.hd.heap_1 w.params).In s.heap) (T : Top Mine.view (looseW Mine.view [Str.ofString "SnobolError"]) mean mg mb s.heap) (h : BndAt s.heap bl tp) :
    wpAny (model PySem.Challenge.rw_sj0194_01.row.prog w) (AA 700 700) (call (.ref 269) [.ref bl]) (IntRes s 2) (fun _ _ => False) s := by
  obtain ⟨n, t1, t2, h1, h2⟩ := h
  have hne : @Ne Nat bl tp := fun e => by
    have e' : bl = tp := e
    rw [e', h2] at h1
    injection h1 with h1
    have := congrArg Obj.cls h1
    injection this with this
    exact absurd this (by decide)
  revert T X; k_fill; intro X T
  k_with_none
  w_top off
  refine wpAny_call ?_
  refine' enter_fn ?k4 ?k5 ?k6 ?k7 ?k8 ?k9 ?kB ?_ ?c2 ?c3 ?c4 ?c5
  case k4 => exact X
  case k5 => exact T
  case k6 => k_is
  case k7 => k_is
  case k8 => decide
  case k9 => exact BindsTo.of_eq rfl
  case c5 => decide
  case kB => exact locs rfl
  case c2 => exact rfl
  case c3 => exact rfl
  case c4 => exact rfl
  k_whole
  intro L' h' F₁ N₁
  have h1' : (s.heap.hide tp).get? bl = some (PySem.W.listOf #[.ref tp] n) := (Heap.hide_ne _ hne).trans h1
  have F' := thawF (b := bl) (thawF (b := tp) F₁)
  have N' := thawN (thawF (b := tp) F₁) (thawN F₁ N₁ h2) h1'
  clear F₁ N₁
  (try dsimp only)
  (try k_fold)
  k_steps
  show IntRes s 2 (.int 2 _) _
  exact size_end (by k_asm) (by k_asm) h1 h2 (by k_mem) (by k_mem)
end
end Mine
end
section
open PySem PySem.W PyProof.Rows PySem.Calls PySem.Spec
namespace Mine
theorem ne_cls {h : Heap} {x y : Addr} {o1 o2 : Obj} (e1 : h.get? x = some o1) (e2 : h.get? y = some o2) (hc : o1.cls ≠ o2.cls) : @Ne Nat x y := fun r => by
  have r' : x = y := r
  subst r'
  rw [e1] at e2
  injection e2 with e2
  exact hc (congrArg Obj.cls e2)
theorem tl_ne : Value.type "list" ≠ Value.type "tuple" := fun e => by injection e with e; exact absurd e (by decide)
theorem dl_ne : Value.type "dict" ≠ Value.type "list" := fun e => by injection e with e; exact absurd e (by decide)
theorem dt_ne : Value.type "dict" ≠ Value.type "tuple" := fun e => by injection e with e; exact absurd e (by decide)
theorem hide3 {h : Heap} {a b c x : Addr} {o : Obj} (e : h.get? x = some o) (n1 : @Ne Nat x a) (n2 : @Ne Nat x b) (n3 : @Ne Nat x c) : (((h.hide a).hide b).hide c).get? x = some o :=
  (Heap.hide_ne _ n3).trans ((Heap.hide_ne _ n2).trans ((Heap.hide_ne _ n1).trans e))
theorem place_end {s : Shared} {bl tp pl L' : Addr} {o1 o2 o3 : Obj} {h' : Heap} {m : Str → Option Value} {news : List (Addr × Obj)} {x k : Int} {t : Tok} {tk : Nat}
    (F : Fr (((s.heap.hide tp).hide bl).hide pl) L' h' m) (N : News (((s.heap.hide tp).hide bl).hide pl) L' h' news) (h1 : s.heap.get? tp = some o1) (h2 : s.heap.get? bl = some o2) (h3 : s.heap.get? pl = some o3)
    (m1 : (tp, o1) ∈ news) (m2 : (bl, o2) ∈ news) (m3 : (pl, o3) ∈ news) (e : x = k) : IntRes s k (.int x t) { s with heap := h', toks := tk } := by
  subst e
  refine ⟨t, h', tk, rfl, rfl, fun b o e => ?_⟩
  by_cases q1 : b = tp
  · subst q1; rw [h1] at e; cases e; exact (N _ m1).1
  · by_cases q2 : b = bl
    · subst q2; rw [h2] at e; cases e; exact (N _ m2).1
    · by_cases q3 : b = pl
      · subst q3; rw [h3] at e; cases e; exact (N _ m3).1
      · exact F.keep b o (hide3 e q1 q2 q3)
section
local macro_rules | `(tactic| k_all) => `(tactic| assumption)
local macro_rules | `(tactic| k_inst) => `(tactic| (refine' Mine.inst_frozen ?F ?h1 ?h2; (case F => k_asm); (case h1 => assumption); (case h2 => assumption)))
theorem place_spec {w : World} {s : Shared} {g : Heap} {a d il bl tp pl : Addr} {kk k : Int} {n nb : Nat} {t b1 b2 a1 a2 a3 a4 a5 a6 a7 a8 a9 a10 : Tok} {mean : ExcName → Option Value} {mg mb : Str → Option Value}
    (X : (Mine.hd.heap_1 w.params).In g) (T : Top Mine.view (looseW Mine.view [Str.ofString "SnobolError"]) mean mg mb g)
    (st : g.StaysIn s.heap) (gb : g.get? bl = none) (gt : g.get? tp = none) (gp : g.get? pl = none) (h1 : s.heap.get? a = some (instObj 208 d)) (h2 : s.heap.get? d = some (dictOf [ent w "word" a1 (.str (Str.ofString "ARRAY") a7), ent w "number" a2 (.int k a8), ent w "mark" a3 (.int 0 a9), ent w "told" a4 (.str (Str.ofString "2") a10), ent w "bounds" a5 (.ref bl), ent w "items" a6 (.ref il)] 6))
    (h3 : s.heap.get? bl = some (PySem.W.listOf #[.ref tp] nb)) (h4 : s.heap.get? tp = some (tupOf [.int 1 b1, .int 2 b2])) (h5 : s.heap.get? pl = some (PySem.W.listOf #[.int kk t] n)) (n3 : @Ne Nat pl bl) (hk : kk = 1 ∨ kk = 2) :
    wpAny (model PySem.Challenge.rw_sj0194_01.row.prog w) (AA 650 650) (call (.ref 276) [.ref a, .ref pl]) (IntRes s (kk - 1)) (fun _ _ => False) s := by
  have X0 := X.keeps st
  have T0 := T.keeps st
  have sth : g.StaysIn (((s.heap.hide tp).hide bl).hide pl) := stays_hide (stays_hide (stays_hide st gt) gb) gp
  have X1 := X.keeps sth
  have T1 := T.keeps sth
  clear X T
  revert T0 X0 T1 X1; k_fill; intro X0 T0 X1 T1
  have n1 := ne_cls h3 h4 tl_ne
  have n2 := ne_cls h5 h4 tl_ne
  have h1' := hide3 (a := tp) (b := bl) (c := pl) h1 (ne_cls h1 h4 (fun e => by cases e)) (ne_cls h1 h3 (fun e => by cases e)) (ne_cls h1 h5 (fun e => by cases e))
  have h2' := hide3 (a := tp) (b := bl) (c := pl) h2 (ne_cls h2 h4 dt_ne) (ne_cls h2 h3 dl_ne) (ne_cls h2 h5 dl_ne)
  k_with_none
  w_top off
  refine wpAny_call ?_
  refine' enter_fn ?k4 ?k5 ?k6 ?k7 ?k8 ?k9 ?kB ?_ ?c2 ?c3 ?c4 ?c5
  case k4 => exact X0
  case k5 => exact T0
  case k6 => k_is
  case k7 => k_is
  case k8 => decide
  case k9 => exact BindsTo.of_eq rfl
  case c5 => decide
  case kB => exact locs rfl
  case c2 => exact rfl
  case c3 => exact rfl
  case c4 => exact rfl
  clear X0 T0
  k_whole
  intro L' h' F₁ N₁
  have h3' : (s.heap.hide tp).get? bl = some (PySem.W.listOf #[.ref tp] nb) := (Heap.hide_ne _ n1).trans h3
  have h5' : ((s.heap.hide tp).hide bl).get? pl = some (PySem.W.listOf #[.int kk t] n) := (Heap.hide_ne _ n3).trans ((Heap.hide_ne _ n2).trans h5)
  have F' := thawF (b := pl) (thawF (b := bl) (thawF (b := tp) F₁))
  have N' := thawN (thawF (b := bl) (thawF (b := tp) F₁)) (thawN (thawF (b := tp) F₁) (thawN F₁ N₁ h4) h3') h5'
  clear F₁ N₁ h1 h2 h3' h5'
  (try dsimp only)
  (try k_fold)
  k_steps
  rename Fr _ _ _ _ => lF
  with_unfolding_all refine' For_turns lF ?_
  k_whole
  rcases hk with rfl | rfl
  all_goals k_steps
  · show IntRes s (1 - 1) (.int _ _) _
    exact place_end (by k_asm) (by k_asm) h4 h3 h5 (by k_mem) (by k_mem) (by k_mem) (by decide)
  · show IntRes s (2 - 1) (.int _ _) _
    exact place_end (by k_asm) (by k_asm) h4 h3 h5 (by k_mem) (by k_mem) (by k_mem) (by decide)
end
end Mine
end
section
open PySem PySem.W PyProof.Rows PySem.Calls PySem.Spec
namespace Mine
section
local macro_rules | `(tactic| k_all) => `(tactic| assumption)
local macro_rules | `(tactic| k_inst) => `(tactic| (refine' Mine.inst_frozen ?F ?h1 ?h2; (case F => k_asm); (case h1 => assumption); (case h2 => assumption)))
theorem to_spec {w : World} {s : Shared} {k : Int} {t u : Tok} {mean : ExcName → Option Value} {mg mb : Str → Option Value}
    (X : (Mine.hd.heap_1 w.params).In s.heap) (T : Top Mine.view (looseW Mine.view [Str.ofString "SnobolError"]) mean mg mb s.heap) :
    wpAny (model PySem.Challenge.rw_sj0194_01.row.prog w) (AA 700 700) (call (.ref 177) [.int k t, .int 32 u]) (ValRes s (.int k t)) (fun _ _ => False) s := by
  revert T X; k_fill; intro X T
  k_with_none
  w_top off
  refine wpAny_call ?_
  refine' enter_fn ?k4 ?k5 ?k6 ?k7 ?k8 ?k9 ?kB ?_ ?c2 ?c3 ?c4 ?c5
  case k4 => exact X
  case k5 => exact T
  case k6 => k_is
  case k7 => k_is
  case k8 => decide
  case k9 => exact BindsTo.of_eq rfl
  case c5 => decide
  case kB => exact locs rfl
  case c2 => exact rfl
  case c3 => exact rfl
  case c4 => exact rfl
  k_whole
  intro L' h' F' N'
  (try dsimp only)
  (try k_fold)
  k_steps
  exact ⟨_, _, rfl, rfl, Fr.keep (by k_asm)⟩
theorem need_spec {w : World} {s : Shared} {k : Int} {t u : Tok} {mean : ExcName → Option Value} {mg mb : Str → Option Value}
    (X : (Mine.hd.heap_1 w.params).In s.heap) (T : Top Mine.view (looseW Mine.view [Str.ofString "SnobolError"]) mean mg mb s.heap) :
    wpAny (model PySem.Challenge.rw_sj0194_01.row.prog w) (AA 650 650) (call (.ref 184) [.int k t, .int 32 u]) (ValRes s (.int k t)) (fun _ _ => False) s := by
  revert T X; k_fill; intro X T
  k_with_none
  w_top off
  k_with "call ref" => (refine' use_val (d := 700) (u := 700) (by k_asm) (by k_asm) rfl (Nat.le_of_ble_eq_true rfl) (Nat.le_of_ble_eq_true rfl) (to_spec (X.keeps (Fr.keep (by k_asm))) (T.keeps (Fr.keep (by k_asm)))) ?_; intro h' tk' F' N')
  refine wpAny_call ?_
  refine' enter_fn ?k4 ?k5 ?k6 ?k7 ?k8 ?k9 ?kB ?_ ?c2 ?c3 ?c4 ?c5
  case k4 => exact X
  case k5 => exact T
  case k6 => k_is
  case k7 => k_is
  case k8 => decide
  case k9 => exact BindsTo.of_eq rfl
  case c5 => decide
  case kB => exact locs rfl
  case c2 => exact rfl
  case c3 => exact rfl
  case c4 => exact rfl
  k_whole
  intro L' h' F' N'
  (try dsimp only)
  (try k_fold)
  k_steps
  exact ⟨_, _, rfl, rfl, Fr.keep (by k_asm)⟩
theorem use_place {w : World} {A : Around} {s s0 : Shared} {g : Heap} {L : Addr} {m : Str → Option Value} {news : List (Addr × Obj)} {Q : Value → Shared → Prop} {E : Value → Shared → Prop} {a d il bl tp pl : Addr} {kk k : Int} {n nb : Nat} {t b1 b2 a1 a2 a3 a4 a5 a6 a7 a8 a9 a10 : Tok} {mean : ExcName → Option Value} {mg mb : Str → Option Value}
    (X : (Mine.hd.heap_1 w.params).In g) (T : Top Mine.view (looseW Mine.view [Str.ofString "SnobolError"]) mean mg mb g)
    (F : Fr s0.heap L s.heap m) (N : News s0.heap L s.heap news) (hh : A.handled = none) (hd : A.depth ≤ 650) (hu : A.units ≤ 650)
    (st : g.StaysIn s0.heap) (gb : g.get? bl = none) (gt : g.get? tp = none) (h1 : s0.heap.get? a = some (instObj 208 d)) (h2 : s0.heap.get? d = some (dictOf [ent w "word" a1 (.str (Str.ofString "ARRAY") a7), ent w "number" a2 (.int k a8), ent w "mark" a3 (.int 0 a9), ent w "told" a4 (.str (Str.ofString "2") a10), ent w "bounds" a5 (.ref bl), ent w "items" a6 (.ref il)] 6))
    (h3 : s0.heap.get? bl = some (PySem.W.listOf #[.ref tp] nb)) (h4 : s0.heap.get? tp = some (tupOf [.int 1 b1, .int 2 b2])) (h5 : (pl, PySem.W.listOf #[.int kk t] n) ∈ news) (hk : kk = 1 ∨ kk = 2)
    (kc : ∀ t h' tk, Fr s0.heap L h' m → News s0.heap L h' news → Q (.int (kk - 1) t) { s with heap := h', toks := tk }) :
    wpAny (model PySem.Challenge.rw_sj0194_01.row.prog w) A (call (.ref 276) [.ref a, .ref pl]) Q E s := by
  have st' : g.StaysIn s.heap := fun b o e => F.keep b o (st b o e)
  have gp : g.get? pl = none := by
    cases e : g.get? pl with
    | none => rfl
    | some o => have := st _ _ e; rw [(N _ h5).2.2] at this; cases this
  have n3 : @Ne Nat pl bl := fun e => by
    have e' : pl = bl := e
    have := (N _ h5).2.2
    rw [e', h3] at this; cases this
  refine weaken 650 650 hh hd hu (wpAny_mono (place_spec X T st' gb gt gp (F.keep _ _ h1) (F.keep _ _ h2) (F.keep _ _ h3) (F.keep _ _ h4) (N _ h5).1 n3 hk) (fun v s' hr => ?_) fun _ _ x => x.elim)
  obtain ⟨t', h', tk, rfl, rfl, st2⟩ := hr
  exact kc t' h' tk (fr_stays F st2) (news_stays N st2)
inductive NameRes (w : World) (s : Shared) (a : Addr) (j : Int) (v : Value) (s' : Shared) : Prop
  | mk (nm dn : Addr) (od : Obj) (h' : Heap) (tk : Nat) (e1 : v = .ref nm) (e2 : s' = { s with heap := h', toks := tk }) (e3 : s.heap.StaysIn h') (e4 : s.heap.get? nm = none) (e5 : s.heap.get? dn = none) (e6 : h'.get? nm = some (instObj 117 dn)) (e7 : h'.get? dn = some od) (e8 : NameDict w od a j) : NameRes w s a j v s'
theorem item_spec {w : World} {s : Shared} {g : Heap} {a d il bl tp kl : Addr} {kk k : Int} {n nb : Nat} {t u b1 b2 a1 a2 a3 a4 a5 a6 a7 a8 a9 a10 : Tok} {mean : ExcName → Option Value} {mg mb : Str → Option Value}
    (X : (Mine.hd.heap_1 w.params).In g) (T : Top Mine.view (looseW Mine.view [Str.ofString "SnobolError"]) mean mg mb g)
    (st : g.StaysIn s.heap) (gb : g.get? bl = none) (gt : g.get? tp = none) (h1 : s.heap.get? a = some (instObj 208 d)) (h2 : s.heap.get? d = some (dictOf [ent w "word" a1 (.str (Str.ofString "ARRAY") a7), ent w "number" a2 (.int k a8), ent w "mark" a3 (.int 0 a9), ent w "told" a4 (.str (Str.ofString "2") a10), ent w "bounds" a5 (.ref bl), ent w "items" a6 (.ref il)] 6))
    (h3 : s.heap.get? bl = some (PySem.W.listOf #[.ref tp] nb)) (h4 : s.heap.get? tp = some (tupOf [.int 1 b1, .int 2 b2])) (h5 : s.heap.get? kl = some (PySem.W.listOf #[.int kk t] n)) (hk : kk = 1 ∨ kk = 2) :
    wpAny (model PySem.Challenge.rw_sj0194_01.row.prog w) (AA 500 500) (call (.ref 295) [.ref a, .ref kl, .int 32 u]) (NameRes w s a (kk - 1)) (fun _ _ => False) s := by
  have X0 := X.keeps st
  have T0 := T.keeps st
  revert T0 X0; k_fill; intro X0 T0
  have hL : s.heap.IsList kl [Value.int kk t].toArray := ⟨_, h5, rfl, _, rfl⟩
  k_with_none
  w_top off
  refine wpAny_call ?_
  refine' enter_fnC (binds := [(Str.ofString "owner", .ref a), (Str.ofString "keys", .ref kl), (Str.ofString "width", .int 32 u)]) ?k4 ?k5 ?k6 ?k7 ?k8 ?k9 ?kB ?kD ?_ ?c2 ?c3 ?c4
  case k4 => exact X0
  case k5 => exact T0
  case k6 => k_is
  case k7 => k_is
  case k8 => decide
  case k9 => exact BindsTo.of_eq rfl
  case kB => exact rfl
  case kD => decide +kernel
  case c2 => exact rfl
  case c3 => exact rfl
  case c4 => exact rfl
  k_whole
  intro L' h' tk' cells' F' N' Y'
  k_cells Y'
  (try dsimp only)
  (try k_fold)
  k_with "call ref" => first
    | (refine' use_val (d := 650) (u := 650) (by k_asm) (by k_asm) rfl (Nat.le_of_ble_eq_true rfl) (Nat.le_of_ble_eq_true rfl) (need_spec (X0.keeps (Fr.keep (by k_asm))) (T0.keeps (Fr.keep (by k_asm)))) ?_; intro h' tk' F' N')
    | refine Mine.stop ?_
  k_steps
  change wpAny _ _ _ _ _ _
  rename Fr _ _ _ _ => F1
  rename News _ _ _ _ => N1
  refine use_place (g := g) X T F1 N1 rfl (Nat.le_of_ble_eq_true rfl) (Nat.le_of_ble_eq_true rfl) st gb gt h1 h2 h3 h4 (.head _) hk ?_
  clear F1 N1
  intro tp' h' tk' F' N'
  k_steps
  change wpAny _ _ _ _ _ _
  rename Fr _ _ _ _ => F1
  rename News _ _ _ _ => N1
  refine weaken 600 600 rfl (Nat.le_of_ble_eq_true rfl) (Nat.le_of_ble_eq_true rfl) (wpAny_mono (name_new X0 T0 F1 N1) (fun v s' hr => ?_) fun _ _ x => x.elim)
  clear F1 N1
  obtain ⟨nm, dn, od, h', tk', rfl, rfl, F', N', hd, q1, q2⟩ := hr
  k_steps
  show NameRes w s a (kk - 1) (.ref nm) _
  exact ⟨nm, dn, od, _, _, rfl, rfl, F'.keep, (N' _ (.head _)).2.2, (N' _ (.tail _ (.head _))).2.2, (N' _ (.head _)).1, (N' _ (.tail _ (.head _))).1, hd⟩
end
end Mine
end
section
open PySem PySem.W PyProof.Rows PySem.Calls PySem.Spec
namespace Mine
def LawIs (w : World) (c : Arguments) (d : List Stmt) (e : Scope) : Prop := PySem.Challenge.rw_sj0194_01 = PySem.Challenge.rw_sj0194_01 ∧ ∃ (name qual : Str) (dV kV doc pm cdv ct oc : Value) (an od : Option Addr) (osl : Array (Option Value)), (Mine.hd.heap_1 w.params).lookup 395 = some ⟨oc, od, .func (fnOf name qual c d e dV kV doc pm an cdv ct), osl⟩
theorem lawIs {w : World} {c : Arguments} {d : List Stmt} {e : Scope} {name qual : Str} {dV kV doc pm cdv ct oc : Value} {an od : Option Addr} {osl : Array (Option Value)} (h : (Mine.hd.heap_1 w.params).lookup 395 = some ⟨oc, od, .func (fnOf name qual c d e dV kV doc pm an cdv ct), osl⟩) : LawIs w c d e :=
  ⟨rfl, name, qual, dV, kV, doc, pm, cdv, ct, oc, an, od, osl, h⟩
structure LawP where
  pars : Arguments
  body : List Stmt
  scope : Scope
  is_ : ∀ w : World, LawIs w pars body scope
theorem fill_here (P : Prop) (h : (PySem.Challenge.rw_sj0194_01 = PySem.Challenge.rw_sj0194_01 ∧ ∀ w : World, (Mine.hd.heap_1 w.params).lookup 395 = (Mine.hd.heap_1 w.params).lookup 395) → P) : P := h ⟨rfl, fun _ => rfl⟩
def mkLaw {c : Arguments} {d : List Stmt} {e : Scope} (h : ∀ w : World, LawIs w c d e) : LawP := ⟨c, d, e, h⟩
noncomputable def lawP : LawP := by
  refine' mkLaw ?h
  case h =>
    refine' fill_here _ ?g
    case g =>
      k_fill
      intro _ w
      refine' lawIs ?k
      case k => k_is
noncomputable def lawBody : List Stmt := lawP.body
noncomputable def lawScope : Scope := lawP.scope
theorem gz {α : Type} (a d : α) (l : List α) : (a :: l).getD 0 d = a := rfl
theorem gs {α : Type} (a d : α) (l : List α) (n : Nat) : (a :: l).getD (n + 1) d = l.getD n d := rfl
end Mine
end
section
open PySem PySem.W PyProof.Rows PySem.Calls PySem.Spec
namespace Mine
inductive HInit (w : World) (od : Obj) (kk : Int) : Prop
  | mk (t1 t2 t3 t7 t8 t9 : Tok) (e1 : od = dictOf [ent w "word" t1 (.str (Str.ofString "ARRAY") t7), ent w "number" t2 (.int kk t8), ent w "mark" t3 (.int 0 t9)] 3) : HInit w od kk
inductive HInitRes (w : World) (s : Shared) (wd : Addr) (kk : Int) (v : Value) (s' : Shared) : Prop
  | mk (h' : Heap) (tk : Nat) (od' : Obj) (e1 : v = .none) (e2 : s' = { s with heap := h', toks := tk }) (e3 : But [wd] s.heap h') (e4 : h'.get? wd = some od') (e5 : HInit w od' kk) : HInitRes w s wd kk v s'
theorem hinit_end {w : World} {s : Shared} {wa wd L' : Addr} {od : Obj} {kk : Int} {h' : Heap} {m : Str → Option Value} {news : List (Addr × Obj)} {oi : Obj} {tk : Nat}
    (F : Fr ((s.heap.hide wd).hide wa) L' h' m) (N : News ((s.heap.hide wd).hide wa) L' h' news) (h1 : s.heap.get? wa = some oi) (m1 : (wa, oi) ∈ news) (m2 : (wd, od) ∈ news) (W : HInit w od kk) :
    HInitRes w s wd kk .none { s with heap := h', toks := tk } :=
  ⟨h', tk, od, rfl, rfl, but_drop (b := wa) (fun c o hc e => but2 F c o (fun hm => hc (by simp at hm ⊢; rcases hm with rfl | rfl <;> simp)) e) h1 (N _ m1).1, (N _ m2).1, W⟩
section
local macro_rules | `(tactic| k_all) => `(tactic| assumption)
theorem hinit_spec {w : World} {s : Shared} {g : Heap} {wa wd : Addr} {kk : Int} {t u : Tok} {mean : ExcName → Option Value} {mg mb : Str → Option Value}
    (X : (Mine.hd.heap_1 w.params).In g) (T : Top Mine.view (looseW Mine.view [Str.ofString "SnobolError"]) mean mg mb g)
    (st : g.StaysIn s.heap) (ga : g.get? wa = none) (gd : g.get? wd = none) (h1 : s.heap.get? wa = some (instObj 208 wd)) (h2 : s.heap.get? wd = some (dictOf [] 0)) (hne : @Ne Nat wa wd) :
    wpAny (model PySem.Challenge.rw_sj0194_01.row.prog w) (AA 650 650) (call (.ref 135) [.ref wa, .str (Str.ofString "ARRAY") t, .int kk u]) (HInitRes w s wd kk) (fun _ _ => False) s := by
  have X0 := X.keeps st
  have T0 := T.keeps st
  have sth : g.StaysIn ((s.heap.hide wd).hide wa) := stays_hide (stays_hide st gd) ga
  have X1 := X.keeps sth
  have T1 := T.keeps sth
  clear X T
  revert T0 X0 T1 X1; k_fill; intro X0 T0 X1 T1
  k_with_none
  w_top off
  refine wpAny_call ?_
  refine' enter_fn ?k4 ?k5 ?k6 ?k7 ?k8 ?k9 ?kB ?_ ?c2 ?c3 ?c4 ?c5
  case k4 => exact X0
  case k5 => exact T0
  case k6 => k_is
  case k7 => k_is
  case k8 => decide
  case k9 => exact BindsTo.of_eq rfl
  case c5 => decide
  case kB => exact locs rfl
  case c2 => exact rfl
  case c3 => exact rfl
  case c4 => exact rfl
  clear X0 T0
  k_whole
  intro L' h' F₁ N₁
  have h1' : (s.heap.hide wd).get? wa = some (instObj 208 wd) := (Heap.hide_ne _ hne).trans h1
  have F' := thawF (b := wa) (thawF (b := wd) F₁)
  have N' := thawN (thawF (b := wd) F₁) (thawN F₁ N₁ h2) h1'
  have hne' : @Ne Nat wd wa := Ne.symm hne
  clear F₁ N₁
  (try dsimp only)
  (try k_fold)
  k_steps
  show HInitRes w s wd kk .none _
  exact hinit_end (by k_asm) (by k_asm) h1 (by k_mem) (by k_mem) ⟨_, _, _, _, _, _, rfl⟩
end
end Mine
end
section
open PySem PySem.W PyProof.Rows PySem.Calls PySem.Spec
namespace Mine
abbrev KIn (w : World) (g : Heap) : Prop := (Mine.hd.heap_1 w.params).In g
abbrev TopAt (mean : ExcName → Option Value) (mg mb : Str → Option Value) (g : Heap) : Prop := Top Mine.view (looseW Mine.view [Str.ofString "SnobolError"]) mean mg mb g
section
variable {w : World} {A : Around} {s : Shared} {g : Heap} {L : Addr} {m : Str → Option Value} {news rest : List (Addr × Obj)} {Q : Value → Shared → Prop} {E : Value → Shared → Prop} {mean : ExcName → Option Value} {mg mb : Str → Option Value}
theorem use_next {wa wd hl : Addr} {od : Obj} {made : Int} (X : KIn w g) (T : TopAt mean mg mb g) (F : Fr g L s.heap m) (N : News g L s.heap news) (hh : A.handled = none) (hd : A.depth ≤ 600) (hu : A.units ≤ 600)
    (m1 : (wa, instObj 320 wd) ∈ news) (m2 : (wd, od) ∈ news) (W : WorldIs w od hl made) (hne : @Ne Nat wa wd) (hm0 : 0 ≤ made) (hm1 : made ≤ 100) (hs : ∀ p ∈ rest, p ∈ news ∧ p.1 ≠ wd)
    (k : ∀ t h' tk od', Fr g L h' m → News g L h' ((wd, od') :: rest) → WorldIs w od' hl (made + 1) → Q (.int (made + 1) t) { s with heap := h', toks := tk }) :
    wpAny (model PySem.Challenge.rw_sj0194_01.row.prog w) A (call (.ref 331) [.ref wa]) Q E s := by
  refine weaken 600 600 hh hd hu (wpAny_mono (next_spec X T F.keep (N _ m1).2.2 (N _ m2).2.2 (N _ m1).1 (N _ m2).1 W hne hm0 hm1) (fun v s' hr => ?_) fun _ _ x => x.elim)
  obtain ⟨t, h', tk, od', rfl, rfl, B, e, W'⟩ := hr
  refine k t h' tk od' (B.fr F (fun d hd => by rw [List.mem_singleton.mp hd]; exact (N _ m2).2.2) (fun hL => (N _ m2).2.1 (List.mem_singleton.mp hL).symm)) (fun p hp => ?_) W'
  rcases List.mem_cons.mp hp with rfl | hp
  · exact ⟨e, (N _ m2).2⟩
  · obtain ⟨h1, h2⟩ := hs p hp
    exact ⟨B _ _ (fun q => h2 (List.mem_singleton.mp q)) (N p h1).1, (N p h1).2⟩
theorem use_held {wa wd hl a : Addr} {od : Obj} {made : Int} {n : Nat} {hv : List Value} (X : KIn w g) (T : TopAt mean mg mb g) (F : Fr g L s.heap m) (N : News g L s.heap news) (hh : A.handled = none) (hd : A.depth ≤ 600) (hu : A.units ≤ 600)
    (m1 : (wa, instObj 320 wd) ∈ news) (m2 : (wd, od) ∈ news) (m3 : (hl, PySem.W.listOf hv.toArray n) ∈ news) (W : WorldIs w od hl made) (n1 : @Ne Nat wa hl) (n2 : @Ne Nat wd hl) (hlen : hv.length ≤ 100) (hs : ∀ p ∈ rest, p ∈ news ∧ p.1 ≠ hl)
    (k : ∀ h' tk n', Fr g L h' m → News g L h' ((hl, PySem.W.listOf (hv ++ [Value.ref a]).toArray n') :: rest) → Q (.ref a) { s with heap := h', toks := tk }) :
    wpAny (model PySem.Challenge.rw_sj0194_01.row.prog w) A (call (.ref 338) [.ref wa, .ref a]) Q E s := by
  refine weaken 600 600 hh hd hu (wpAny_mono (held_spec X T F.keep (N _ m3).2.2 (N _ m1).1 (N _ m2).1 (N _ m3).1 W n1 n2 hlen) (fun v s' hr => ?_) fun _ _ x => x.elim)
  obtain ⟨h', tk, n', rfl, rfl, B, e⟩ := hr
  refine k h' tk n' (B.fr F (fun d hd => by rw [List.mem_singleton.mp hd]; exact (N _ m3).2.2) (fun hL => (N _ m3).2.1 (List.mem_singleton.mp hL).symm)) (fun p hp => ?_)
  rcases List.mem_cons.mp hp with rfl | hp
  · exact ⟨e, (N _ m3).2⟩
  · obtain ⟨h1, h2⟩ := hs p hp
    exact ⟨B _ _ (fun q => h2 (List.mem_singleton.mp q)) (N p h1).1, (N p h1).2⟩
theorem use_bnd {t u : Tok} (X : KIn w g) (T : TopAt mean mg mb g) (F : Fr g L s.heap m) (N : News g L s.heap news) (hh : A.handled = none) (hd : A.depth ≤ 670) (hu : A.units ≤ 670)
    (k : ∀ bl tp n t1 t2 h' tk, Fr g L h' m → News g L h' ((bl, PySem.W.listOf #[.ref tp] n) :: (tp, tupOf [.int 1 t1, .int 2 t2]) :: news) → (∀ p ∈ news, @Ne Nat p.1 bl) → (∀ p ∈ news, @Ne Nat p.1 tp) → Q (.ref bl) { s with heap := h', toks := tk }) :
    wpAny (model PySem.Challenge.rw_sj0194_01.row.prog w) A (call (.ref 262) [.str (Str.ofString "2") t, .int 32 u]) Q E s := by
  refine weaken 670 670 hh hd hu (wpAny_mono (bounds_spec (X.keeps F.keep) (T.keeps F.keep)) (fun v s' hr => ?_) fun _ _ x => x.elim)
  obtain ⟨bl, tp, h', tk, n, t1, t2, rfl, rfl, st, e1, e2, e3, e4⟩ := hr
  have N1 := news_new F N st e2 e4
  refine k bl tp n t1 t2 h' tk (fr_stays F st) (fun p hp => ?_) (news_ne N e1) (news_ne N e2)
  rcases List.mem_cons.mp hp with rfl | hp
  · exact news_new F N st e1 e3 _ (.head _)
  · exact N1 p hp
theorem use_size {bl tp : Addr} {n : Nat} {t1 t2 : Tok} (X : KIn w g) (T : TopAt mean mg mb g) (F : Fr g L s.heap m) (N : News g L s.heap news) (hh : A.handled = none) (hd : A.depth ≤ 700) (hu : A.units ≤ 700)
    (m1 : (bl, PySem.W.listOf #[.ref tp] n) ∈ news) (m2 : (tp, tupOf [.int 1 t1, .int 2 t2]) ∈ news)
    (k : ∀ t h' tk, Fr g L h' m → News g L h' news → Q (.int 2 t) { s with heap := h', toks := tk }) :
    wpAny (model PySem.Challenge.rw_sj0194_01.row.prog w) A (call (.ref 269) [.ref bl]) Q E s := by
  refine weaken 700 700 hh hd hu (wpAny_mono (size_spec (X.keeps F.keep) (T.keeps F.keep) ⟨n, t1, t2, (N _ m1).1, (N _ m2).1⟩) (fun v s' hr => ?_) fun _ _ x => x.elim)
  obtain ⟨t, h', tk, rfl, rfl, st⟩ := hr
  exact k t h' tk (fr_stays F st) (news_stays N st)
theorem use_hinit {wa wd : Addr} {kk : Int} {t u : Tok} (X : KIn w g) (T : TopAt mean mg mb g) (F : Fr g L s.heap m) (N : News g L s.heap news) (hh : A.handled = none) (hd : A.depth ≤ 650) (hu : A.units ≤ 650)
    (m1 : (wa, instObj 208 wd) ∈ news) (m2 : (wd, dictOf [] 0) ∈ news) (hne : @Ne Nat wa wd) (hs : ∀ p ∈ rest, p ∈ news ∧ p.1 ≠ wd)
    (k : ∀ h' tk od', Fr g L h' m → News g L h' ((wd, od') :: rest) → HInit w od' kk → Q .none { s with heap := h', toks := tk }) :
    wpAny (model PySem.Challenge.rw_sj0194_01.row.prog w) A (call (.ref 135) [.ref wa, .str (Str.ofString "ARRAY") t, .int kk u]) Q E s := by
  refine weaken 650 650 hh hd hu (wpAny_mono (hinit_spec X T F.keep (N _ m1).2.2 (N _ m2).2.2 (N _ m1).1 (N _ m2).1 hne) (fun v s' hr => ?_) fun _ _ x => x.elim)
  obtain ⟨h', tk, od', rfl, rfl, B, e, W'⟩ := hr
  refine k h' tk od' (B.fr F (fun d hd => by rw [List.mem_singleton.mp hd]; exact (N _ m2).2.2) (fun hL => (N _ m2).2.1 (List.mem_singleton.mp hL).symm)) (fun p hp => ?_) W'
  rcases List.mem_cons.mp hp with rfl | hp
  · exact ⟨e, (N _ m2).2⟩
  · obtain ⟨h1, h2⟩ := hs p hp
    exact ⟨B _ _ (fun q => h2 (List.mem_singleton.mp q)) (N p h1).1, (N p h1).2⟩
end
end Mine
end
section
open PySem PySem.W PyProof.Rows PySem.Calls PySem.Spec
namespace Mine
inductive ArrDict (w : World) (od : Obj) (k : Int) (bl il : Addr) : Prop
  | mk (t1 t2 t3 t4 t5 t6 t7 t8 t9 t10 : Tok) (e1 : od = dictOf [ent w "word" t1 (.str (Str.ofString "ARRAY") t7), ent w "number" t2 (.int k t8), ent w "mark" t3 (.int 0 t9), ent w "told" t4 (.str (Str.ofString "2") t10), ent w "bounds" t5 (.ref bl), ent w "items" t6 (.ref il)] 6) : ArrDict w od k bl il
inductive ArrNew (w : World) (g : Heap) (L : Addr) (m : Str → Option Value) (nw : List (Addr × Obj)) (k : Int) (bl : Addr) (s : Shared) (v : Value) (s' : Shared) : Prop
  | mk (a d il od h' tk n u1 u2) (e1 : v = .ref a) (e2 : s' = { s with heap := h', toks := tk }) (e3 : Fr g L h' m) (e4 : News g L h' ((a, instObj 208 d) :: (d, od) :: (il, PySem.W.listOf #[.str (Str.ofString "") u1, .str (Str.ofString "") u2] n) :: nw)) (e5 : ArrDict w od k bl il) (e6 : (∀ p ∈ nw, @Ne Nat p.1 a)) (e7 : (∀ p ∈ nw, @Ne Nat p.1 d)) (e8 : (∀ p ∈ nw, @Ne Nat p.1 il)) : ArrNew w g L m nw k bl s v s'
section
local macro_rules | `(tactic| k_mem) => `(tactic| first | assumption | exact List.Mem.head _ | (refine' List.Mem.tail _ ?_; k_mem))
local macro_rules | `(tactic| k_all) => `(tactic| assumption)
theorem arr_new {w : World} {s : Shared} {g : Heap} {L bl tp : Addr} {nb : Nat} {b1 b2 : Tok} {kk : Int} {t : Tok} {m : Str → Option Value} {nw : List (Addr × Obj)} {u v : Tok} {mean : ExcName → Option Value} {mg mb : Str → Option Value}
    (X : (Mine.hd.heap_1 w.params).In g) (T : Top Mine.view (looseW Mine.view [Str.ofString "SnobolError"]) mean mg mb g)
    (F : Fr g L s.heap m) (N : News g L s.heap nw) (hb1 : (bl, PySem.W.listOf #[.ref tp] nb) ∈ nw) (hb2 : (tp, tupOf [.int 1 b1, .int 2 b2]) ∈ nw) :
    wpAny (model PySem.Challenge.rw_sj0194_01.row.prog w) (AA 600 600) (call (.ref 208) [.int kk t, .str (Str.ofString "2") u, .ref bl, .str (Str.ofString "") v]) (ArrNew w g L m nw kk bl s) (fun _ _ => False) s := by
  revert T X; k_fill; intro X T
  k_with_none
  w_top off
  k_with "call ref" => refine Mine.stop ?_
  refine' call_cls F X N ?k4 ?k5 ?k6 ?_
  case k4 => k_is
  case k5 => k_is
  case k6 => k_is
  k_whole
  intro x' d' h' F1 N1 l1 l2
  refine' enter_fn (X.keeps F1.keep) (T.keeps F1.keep) ?k6 ?k7 ?k8 ?k9 ?kB ?_ ?c2 ?c3 ?c4 ?c5
  case k6 => k_is
  case k7 => k_is
  case k8 => exact Nat.le_of_ble_eq_true rfl
  case k9 => exact BindsTo.of_eq rfl
  case c5 => decide
  case kB => exact locs rfl
  case c2 => exact rfl
  case c3 => exact rfl
  case c4 => exact rfl
  k_whole
  intro L' h'' F₁ N₁
  obtain ⟨oL, heL, hoL, hgL⟩ := own_obj F1
  have hLL : L ≠ L' := Nat.ne_of_lt (Nat.lt_of_lt_of_le F1.ns.lt F₁.above)
  have N2 : News g L' h'' ((x', instObj 208 d') :: (d', dictOf [] 0) :: (L, oL) :: nw) := by
    have := rebaseN F₁ N1
    intro p hp
    rcases List.mem_cons.mp hp with rfl | hp
    · exact this _ (.head _)
    · rcases List.mem_cons.mp hp with rfl | hp
      · exact this _ (.tail _ (.head _))
      · rcases List.mem_cons.mp hp with rfl | hp
        · exact ⟨F₁.keep _ _ heL, hLL, hgL⟩
        · exact this _ (.tail _ (.tail _ hp))
  have F' := rebase F₁ F1.keep (fr_size F1)
  have N' := N2
  have q0 : ∀ p ∈ nw, p.1 ≠ L := fun p hp => (N p hp).2.1
  have q6 : g.objs.size ≤ L := F.above
  have q1 : @Ne Nat x' L := (N1 _ (.head _)).2.1
  have q2 : @Ne Nat d' L := (N1 _ (.tail _ (.head _))).2.1
  have q3 : @Ne Nat d' x' := Nat.ne_of_lt l2
  have q4 : ∀ p ∈ nw, p.1 ≠ x' := fun p hp => Nat.ne_of_lt (Nat.lt_trans (l1 p hp) l2)
  have q5 : ∀ p ∈ nw, p.1 ≠ d' := fun p hp => Nat.ne_of_lt (l1 p hp)
  clear N2 N₁ F₁ N1 F1 N F l1 l2
  (try dsimp only)
  (try k_fold)
  k_steps
  change wpAny _ _ _ _ _ _
  refine use_hinit (rest := (x', instObj 208 d') :: (L, oL) :: nw) X T F' N' rfl (Nat.le_of_ble_eq_true rfl) (Nat.le_of_ble_eq_true rfl) (by k_mem) (by k_mem) (Ne.symm q3) ?_ ?_
  · exact List.forall_mem_cons.2 ⟨⟨by k_mem, Ne.symm q3⟩, List.forall_mem_cons.2 ⟨⟨by k_mem, Ne.symm q2⟩, fun p hp => ⟨.tail _ (.tail _ (.tail _ hp)), q5 p hp⟩⟩⟩
  clear F' N'
  intro h' tk' od' F' N' HI
  obtain ⟨t1, t2, t3, t7, t8, t9, rfl⟩ := HI
  k_steps
  change wpAny _ _ _ _ _ _
  rename Fr _ _ _ _ => F1
  rename News _ _ _ _ => N1
  refine use_size (tp := tp) (n := nb) (t1 := b1) (t2 := b2) X T F1 N1 rfl (Nat.le_of_ble_eq_true rfl) (Nat.le_of_ble_eq_true rfl) (by k_mem) (by k_mem) ?_
  clear F1 N1
  rintro ts h' tk' F' N'
  dsimp only at F' N' ⊢
  k_steps
  refine KMa.mul (ws := [.str (Str.ofString "") v, .str (Str.ofString "") v]) F' N' (News.isList N' (.head _)) (by decide) (by decide) (Nat.le_of_ble_eq_true rfl) rfl ?_
  clear F' N'
  intro il h' F' N' l3
  dsimp only at F' N' ⊢
  obtain ⟨l4, l5, l6, l7, l8⟩ := allLt_of l3
  have i1 : @Ne Nat il d' := Ne.symm (Nat.ne_of_lt l5)
  have i2 : @Ne Nat d' il := Nat.ne_of_lt l5
  have i3 : ∀ p ∈ nw, @Ne Nat p.1 il := fun p hp => Nat.ne_of_lt (l3 p (.tail _ (.tail _ (.tail _ (.tail _ hp)))))
  have i4 : @Ne Nat il L := Ne.symm (Nat.ne_of_lt l7)
  have N9 := news_sub N' (news' := (d', _) :: (x', instObj 208 d') :: (il, _) :: (L, oL) :: nw) (List.forall_mem_cons.2 ⟨by k_mem, List.forall_mem_cons.2 ⟨by k_mem, List.forall_mem_cons.2 ⟨by k_mem, List.forall_mem_cons.2 ⟨by k_mem, fun p hp => .tail _ (.tail _ (.tail _ (.tail _ (.tail _ hp))))⟩⟩⟩⟩)
  clear N'
  clear l3 l4 l5 l6 l7 l8
  k_steps
  rename Fr _ _ _ _ => F9
  rename News _ _ _ _ => N9
  have hF := own_back2 F9 N9 hoL q6 (by k_mem)
  refine' ⟨rfl, x', d', il, _, _, _, _, _, _, rfl, rfl, hF, news_back (nx := [_, _, _]) N9 q0 (by
    intro p hp
    rcases List.mem_cons.mp hp with rfl | hp
    · exact ⟨by k_mem, q1⟩
    · rcases List.mem_cons.mp hp with rfl | hp
      · exact ⟨by k_mem, q2⟩
      · rw [List.mem_singleton.mp hp]
        exact ⟨by k_mem, i4⟩) ?c7, ?c2, q4, q5, i3⟩
  case c7 =>
    intro p hp
    repeat (first | exact hp | refine List.Mem.tail _ ?_)
  case c2 => exact ⟨_, _, _, _, _, _, _, _, _, _, rfl⟩
theorem use_arr {A : Around} {s : Shared} {g : Heap} {L : Addr} {m : Str → Option Value} {news : List (Addr × Obj)} {Q : Value → Shared → Prop} {E : Value → Shared → Prop} {mean : ExcName → Option Value} {mg mb : Str → Option Value} {w : World} {bl tp : Addr} {n : Nat} {kk : Int} {t1 t2 t u v : Tok} (X : KIn w g) (T : TopAt mean mg mb g) (F : Fr g L s.heap m) (N : News g L s.heap news) (hh : A.handled = none) (hd : A.depth ≤ 600) (hu : A.units ≤ 600)
    (m1 : (bl, PySem.W.listOf #[.ref tp] n) ∈ news) (m2 : (tp, tupOf [.int 1 t1, .int 2 t2]) ∈ news)
    (k : ∀ a d il od n' u1 u2 h' tk, Fr g L h' m → News g L h' ((a, instObj 208 d) :: (d, od) :: (il, PySem.W.listOf #[.str (Str.ofString "") u1, .str (Str.ofString "") u2] n') :: news) → ArrDict w od kk bl il →
      (∀ p ∈ news, @Ne Nat p.1 a) → (∀ p ∈ news, @Ne Nat p.1 d) → (∀ p ∈ news, @Ne Nat p.1 il) → Q (.ref a) { s with heap := h', toks := tk }) :
    wpAny (model PySem.Challenge.rw_sj0194_01.row.prog w) A (call (.ref 208) [.int kk t, .str (Str.ofString "2") u, .ref bl, .str (Str.ofString "") v]) Q E s := by
  refine weaken 600 600 hh hd hu (wpAny_mono (arr_new X T F N m1 m2) (fun v s' hr => ?_) fun _ _ x => x.elim)
  obtain ⟨a, d, il, od, h', tk, n', u1, u2, rfl, rfl, F', N', W, q1, q2, q3⟩ := hr
  exact k a d il od n' u1 u2 h' tk F' N' W q1 q2 q3
end
end Mine
end
section
open PySem PySem.W PyProof.Rows PySem.Calls PySem.Spec
namespace Mine
inductive MadeRes (w : World) (s : Shared) (wd hl : Addr) (hv : List Value) (made : Int) (v : Value) (s' : Shared) : Prop
  | mk (a d il bl tp : Addr) (od' oa : Obj) (h' : Heap) (tk n n1 n2 : Nat) (t1 t2 u1 u2 : Tok) (e1 : v = .ref a) (e2 : s' = { s with heap := h', toks := tk }) (e3 : But [wd, hl] s.heap h') (e4 : h'.get? wd = some od') (e5 : WorldIs w od' hl (made + 1)) (e6 : h'.get? hl = some (PySem.W.listOf (hv ++ [Value.ref a]).toArray n)) (e7 : ArrDict w oa (made + 1) bl il) (e8 : (∀ p ∈ [(a, instObj 208 d), (d, oa), (il, PySem.W.listOf #[.str (Str.ofString "") u1, .str (Str.ofString "") u2] n1), (bl, PySem.W.listOf #[.ref tp] n2), (tp, tupOf [.int 1 t1, .int 2 t2])], h'.get? p.1 = some p.2 ∧ s.heap.get? p.1 = none)) : MadeRes w s wd hl hv made v s'
theorem od_of {w : World} {g h : Heap} {L wd hl : Addr} {od : Obj} {made : Int} {news : List (Addr × Obj)} (_N : News g L h news) (W : WorldIs w od hl made) (hm : (wd, od) ∈ news) : ∃ odx, (wd, odx) ∈ news ∧ WorldIs w odx hl made := ⟨od, hm, W⟩
theorem none3 {h : Heap} {a b c x : Addr} (e : (((h.hide a).hide b).hide c).get? x = none) (h1 : x ≠ a) (h2 : x ≠ b) (h3 : x ≠ c) : h.get? x = none := by
  rwa [Heap.hide_ne _ h3, Heap.hide_ne _ h2, Heap.hide_ne _ h1] at e
theorem made_end {w : World} {s : Shared} {wa wd hl a d il bl tp L' : Addr} {od oa oi : Obj} {made : Int} {hv : List Value} {h' : Heap} {m : Str → Option Value} {news : List (Addr × Obj)} {tk n n1 n2 : Nat} {t1 t2 u1 u2 : Tok}
    (F : Fr (((s.heap.hide wd).hide wa).hide hl) L' h' m) (N : News (((s.heap.hide wd).hide wa).hide hl) L' h' news) (h1 : s.heap.get? wa = some oi) (m1 : (wa, oi) ∈ news) (m2 : (wd, od) ∈ news) (m3 : (hl, PySem.W.listOf (hv ++ [Value.ref a]).toArray n) ∈ news)
    (W : WorldIs w od hl (made + 1)) (hoa : ArrDict w oa (made + 1) bl il)
    (hn : ∀ p ∈ [(a, instObj 208 d), (d, oa), (il, PySem.W.listOf #[.str (Str.ofString "") u1, .str (Str.ofString "") u2] n1), (bl, PySem.W.listOf #[.ref tp] n2), (tp, tupOf [.int 1 t1, .int 2 t2])], p ∈ news ∧ @Ne Nat p.1 wd ∧ @Ne Nat p.1 wa ∧ @Ne Nat p.1 hl) :
    MadeRes w s wd hl hv made (.ref a) { s with heap := h', toks := tk } := by
  refine ⟨a, d, il, bl, tp, od, oa, h', tk, n, n1, n2, t1, t2, u1, u2, rfl, rfl, ?_, (N _ m2).1, W, (N _ m3).1, hoa, fun p hp => ?_⟩
  · refine but_drop (b := wa) (fun c o hc e => F.keep c o ?_) h1 (N _ m1).1
    simp only [List.mem_cons, List.not_mem_nil, or_false, not_or] at hc
    rw [Heap.hide_ne _ hc.2.2, Heap.hide_ne _ hc.1, Heap.hide_ne _ hc.2.1]
    exact e
  · obtain ⟨k1, k2, k3, k4⟩ := hn p hp
    exact ⟨(N _ k1).1, none3 (N _ k1).2.2 k2 k3 k4⟩
section
local macro_rules | `(tactic| k_all) => `(tactic| assumption)
theorem made_spec {w : World} {s : Shared} {g : Heap} {wa wd hl : Addr} {od : Obj} {made : Int} {hv : List Value} {n : Nat} {t v : Tok} {mean : ExcName → Option Value} {mg mb : Str → Option Value}
    (X : (Mine.hd.heap_1 w.params).In g) (T : Top Mine.view (looseW Mine.view [Str.ofString "SnobolError"]) mean mg mb g)
    (st : g.StaysIn s.heap) (ga : g.get? wa = none) (gd : g.get? wd = none) (gl : g.get? hl = none) (h1 : s.heap.get? wa = some (instObj 320 wd)) (h2 : s.heap.get? wd = some od) (h3 : s.heap.get? hl = some (PySem.W.listOf hv.toArray n)) (W : WorldIs w od hl made)
    (n0 : @Ne Nat wa wd) (n1 : @Ne Nat wa hl) (n2 : @Ne Nat wd hl) (hlen : hv.length ≤ 100) (hm0 : 0 ≤ made) (hm1 : made ≤ 100) :
    wpAny (model PySem.Challenge.rw_sj0194_01.row.prog w) (AA 400 400) (call (.ref 345) [.ref wa, .str (Str.ofString "2") t, .str (Str.ofString "") v]) (MadeRes w s wd hl hv made) (fun _ _ => False) s := by
  have X0 := X.keeps st
  have T0 := T.keeps st
  have sth : g.StaysIn (((s.heap.hide wd).hide wa).hide hl) := stays_hide (stays_hide (stays_hide st gd) ga) gl
  have X1 := X.keeps sth
  have T1 := T.keeps sth
  clear X T
  have h1' : (s.heap.hide wd).get? wa = some (instObj 320 wd) := (Heap.hide_ne _ n0).trans h1
  have h3' : ((s.heap.hide wd).hide wa).get? hl = some (PySem.W.listOf hv.toArray n) := (Heap.hide_ne _ (Ne.symm n1)).trans ((Heap.hide_ne _ (Ne.symm n2)).trans h3)
  have W0 := W
  obtain ⟨t0, t1, t2, t3, t4, t5, t6, t7, t8, t9, t10, t11, t12, t13, t14, t15, t16, t17, t18, t19, t20, t21, t22, t23, t24, t25, u0, u1, u2, v1, v2, v3, v5, v6, v7, v8, v9, v10, v11, v12, v13, v14, v15, v16, v17, v18, v19, v22, v23, v24, v25, rfl⟩ := W
  revert T0 X0 T1 X1; k_fill; intro X0 T0 X1 T1
  k_with_none
  w_top off
  k_with "call ref" => refine Mine.stop ?_
  refine wpAny_call ?_
  refine' enter_fn ?k4 ?k5 ?k6 ?k7 ?k8 ?k9 ?kB ?_ ?c2 ?c3 ?c4 ?c5
  case k4 => exact X0
  case k5 => exact T0
  case k6 => k_is
  case k7 => k_is
  case k8 => decide
  case k9 => exact BindsTo.of_eq rfl
  case c5 => decide
  case kB => exact locs rfl
  case c2 => exact rfl
  case c3 => exact rfl
  case c4 => exact rfl
  clear X0 T0
  k_whole
  intro L' h' F₁ N₁
  have F' := thawF (b := hl) (thawF (b := wa) (thawF (b := wd) F₁))
  have N' := thawN (thawF (b := wa) (thawF (b := wd) F₁)) (thawN (thawF (b := wd) F₁) (thawN F₁ N₁ h2) h1') h3'
  clear F₁ N₁
  (try dsimp only)
  (try k_fold)
  k_steps
  change wpAny _ _ _ _ _ _
  refine use_next (rest := [(hl, PySem.W.listOf hv.toArray n), (wa, instObj 320 wd)]) X1 T1 F' N' rfl (Nat.le_of_ble_eq_true rfl) (Nat.le_of_ble_eq_true rfl) (by k_mem) (by k_mem) W0 n0 hm0 hm1 ?_ ?_
  · intro p hp
    rcases List.mem_cons.mp hp with rfl | hp
    · exact ⟨.head _, Ne.symm n2⟩
    · rw [List.mem_singleton.mp hp]
      exact ⟨.tail _ (.head _), n0⟩
  clear F' N'
  rintro tn h' tk' od' F' N' W'
  have W1 := W'
  obtain ⟨t0, t1, t2, t3, t4, t5, t6, t7, t8, t9, t10, t11, t12, t13, t14, t15, t16, t17, t18, t19, t20, t21, t22, t23, t24, t25, u0, u1, u2, v1, v2, v3, v5, v6, v7, v8, v9, v10, v11, v12, v13, v14, v15, v16, v17, v18, v19, v22, v23, v24, v25, rfl⟩ := W'
  k_steps
  change wpAny _ _ _ _ _ _
  rename Fr _ _ _ _ => F1
  rename News _ _ _ _ => N1
  refine use_bnd X1 T1 F1 N1 rfl (Nat.le_of_ble_eq_true rfl) (Nat.le_of_ble_eq_true rfl) ?_
  clear F1 N1
  rintro bl tp nb b1 b2 h' tk' F' N' q1 q2
  k_steps
  change wpAny _ _ _ _ _ _
  rename Fr _ _ _ _ => F1
  rename News _ _ _ _ => N1
  refine use_size (tp := tp) (n := nb) (t1 := b1) (t2 := b2) X1 T1 F1 N1 rfl (Nat.le_of_ble_eq_true rfl) (Nat.le_of_ble_eq_true rfl) (by k_mem) (by k_mem) ?_
  clear F1 N1
  rintro ts h' tk' F' N'
  k_steps
  change wpAny _ _ _ _ _ _
  rename Fr _ _ _ _ => F1
  rename News _ _ _ _ => N1
  refine use_arr (tp := tp) (n := nb) (t1 := b1) (t2 := b2) X1 T1 F1 N1 rfl (Nat.le_of_ble_eq_true rfl) (Nat.le_of_ble_eq_true rfl) (by k_mem) (by k_mem) ?_
  clear F1 N1
  rintro a d il oa na s1 s2 h' tk' F' N' hoa q3 q4 q5
  k_steps
  change wpAny _ _ _ _ _ _
  have bW : @Ne Nat wd bl := q1 (wd, _) (by k_mem)
  have bH : @Ne Nat hl bl := q1 (hl, PySem.W.listOf hv.toArray n) (by k_mem)
  have bA : @Ne Nat wa bl := q1 (wa, instObj 320 wd) (by k_mem)
  have tW : @Ne Nat wd tp := q2 (wd, _) (by k_mem)
  have tH : @Ne Nat hl tp := q2 (hl, PySem.W.listOf hv.toArray n) (by k_mem)
  have tA : @Ne Nat wa tp := q2 (wa, instObj 320 wd) (by k_mem)
  have aW : @Ne Nat wd a := q3 (wd, _) (by k_mem)
  have aH : @Ne Nat hl a := q3 (hl, PySem.W.listOf hv.toArray n) (by k_mem)
  have aA : @Ne Nat wa a := q3 (wa, instObj 320 wd) (by k_mem)
  have dW : @Ne Nat wd d := q4 (wd, _) (by k_mem)
  have dH : @Ne Nat hl d := q4 (hl, PySem.W.listOf hv.toArray n) (by k_mem)
  have dA : @Ne Nat wa d := q4 (wa, instObj 320 wd) (by k_mem)
  have iW : @Ne Nat wd il := q5 (wd, _) (by k_mem)
  have iH : @Ne Nat hl il := q5 (hl, PySem.W.listOf hv.toArray n) (by k_mem)
  have iA : @Ne Nat wa il := q5 (wa, instObj 320 wd) (by k_mem)
  obtain ⟨odx, hox, W2⟩ := od_of (wd := wd) N' W1 (by k_mem)
  refine use_held (rest := [(a, instObj 208 d), (d, oa), (il, PySem.W.listOf #[.str (Str.ofString "") s1, .str (Str.ofString "") s2] na), (bl, PySem.W.listOf #[.ref tp] nb), (tp, tupOf [.int 1 b1, .int 2 b2]), (wd, odx), (wa, instObj 320 wd)]) X1 T1 F' N' rfl (Nat.le_of_ble_eq_true rfl) (Nat.le_of_ble_eq_true rfl) (by k_mem) hox (by k_mem) W2 n1 n2 hlen ?_ ?_
  · refine List.forall_mem_cons.2 ⟨⟨by k_mem, Ne.symm aH⟩, List.forall_mem_cons.2 ⟨⟨by k_mem, Ne.symm dH⟩, List.forall_mem_cons.2 ⟨⟨by k_mem, Ne.symm iH⟩, List.forall_mem_cons.2 ⟨⟨by k_mem, Ne.symm bH⟩, List.forall_mem_cons.2 ⟨⟨by k_mem, Ne.symm tH⟩, List.forall_mem_cons.2 ⟨⟨hox, n2⟩, List.forall_mem_cons.2 ⟨⟨by k_mem, n1⟩, fun p hp => nomatch hp⟩⟩⟩⟩⟩⟩⟩
  clear F' N' hox q1 q2 q3 q4 q5
  rintro h' tk' nh F' N'
  exact made_end F' N' h1 (List.Mem.tail _ (.tail _ (.tail _ (.tail _ (.tail _ (.tail _ (.tail _ (.head _)))))))) (List.Mem.tail _ (.tail _ (.tail _ (.tail _ (.tail _ (.tail _ (.head _))))))) (.head _) W2 hoa (List.forall_mem_cons.2 ⟨⟨by k_mem, Ne.symm aW, Ne.symm aA, Ne.symm aH⟩, List.forall_mem_cons.2 ⟨⟨by k_mem, Ne.symm dW, Ne.symm dA, Ne.symm dH⟩, List.forall_mem_cons.2 ⟨⟨by k_mem, Ne.symm iW, Ne.symm iA, Ne.symm iH⟩, List.forall_mem_cons.2 ⟨⟨by k_mem, Ne.symm bW, Ne.symm bA, Ne.symm bH⟩, List.forall_mem_cons.2 ⟨⟨by k_mem, Ne.symm tW, Ne.symm tA, Ne.symm tH⟩, fun p hp => nomatch hp⟩⟩⟩⟩⟩)
end
end Mine
end
section
open PySem PySem.W PyProof.Rows PySem.Calls PySem.Spec
namespace Mine
inductive SlotRes (s : Shared) (il : Addr) (vs : List Value) (v : Value) (s' : Shared) : Prop
  | mk (h' : Heap) (tk n : Nat) (e1 : v = .none) (e2 : s' = { s with heap := h', toks := tk }) (e3 : But [il] s.heap h') (e4 : h'.get? il = some (PySem.W.listOf vs.toArray n)) : SlotRes s il vs v s'
theorem slot_end {s : Shared} {il L' : Addr} {vs : List Value} {h' : Heap} {m : Str → Option Value} {news : List (Addr × Obj)} {n tk : Nat}
    (F : Fr (s.heap.hide il) L' h' m) (N : News (s.heap.hide il) L' h' news) (m1 : (il, PySem.W.listOf vs.toArray n) ∈ news) :
    SlotRes s il vs .none { s with heap := h', toks := tk } := ⟨h', tk, n, rfl, rfl, but1 F, (N _ m1).1⟩
section
local macro_rules | `(tactic| k_all) => `(tactic| assumption)
local macro_rules | `(tactic| k_inst) => `(tactic| (refine' Mine.inst_frozen ?F ?h1 ?h2; (case F => k_asm); (case h1 => assumption); (case h2 => assumption)))
theorem slot_spec {w : World} {s : Shared} {g : Heap} {n dn a d il bl : Addr} {odn oda : Obj} {k : Int} {j : Nat} {x0 x1 val : Value} {c : Nat} {mean : ExcName → Option Value} {mg mb : Str → Option Value}
    (X : (Mine.hd.heap_1 w.params).In g) (T : Top Mine.view (looseW Mine.view [Str.ofString "SnobolError"]) mean mg mb g)
    (st : g.StaysIn s.heap) (gi : g.get? il = none) (h1 : s.heap.get? n = some (instObj 117 dn)) (h2 : s.heap.get? dn = some odn) (hn : NameDict w odn a j) (h3 : s.heap.get? a = some (instObj 208 d)) (h4 : s.heap.get? d = some oda) (ha : ArrDict w oda k bl il)
    (h5 : s.heap.get? il = some (PySem.W.listOf #[x0, x1] c)) (hj : j = 0 ∨ j = 1) (n1 : @Ne Nat n il) (n2 : @Ne Nat dn il) (n3 : @Ne Nat a il) (n4 : @Ne Nat d il) :
    wpAny (model PySem.Challenge.rw_sj0194_01.row.prog w) (AA 600 600) (call (.ref 302) [.ref n, val]) (SlotRes s il (if j = 0 then [val, x1] else [x0, val])) (fun _ _ => False) s := by
  have X0 := X.keeps st
  have T0 := T.keeps st
  have sth : g.StaysIn (s.heap.hide il) := stays_hide st gi
  have X1 := X.keeps sth
  have T1 := T.keeps sth
  clear X T
  obtain ⟨t1, t2, t3, t4, t5, rfl⟩ := hn
  obtain ⟨a1, a2, a3, a4, a5, a6, a7, a8, a9, a10, rfl⟩ := ha
  have h1' := (Heap.hide_ne s.heap n1).trans h1
  have h2' := (Heap.hide_ne s.heap n2).trans h2
  have h3' := (Heap.hide_ne s.heap n3).trans h3
  have h4' := (Heap.hide_ne s.heap n4).trans h4
  revert T0 X0 T1 X1; k_fill; intro X0 T0 X1 T1
  k_with_none
  w_top off
  refine wpAny_call ?_
  refine' enter_fn ?k4 ?k5 ?k6 ?k7 ?k8 ?k9 ?kB ?_ ?c2 ?c3 ?c4 ?c5
  case k4 => exact X0
  case k5 => exact T0
  case k6 => k_is
  case k7 => k_is
  case k8 => decide
  case k9 => exact BindsTo.of_eq rfl
  case c5 => decide
  case kB => exact locs rfl
  case c2 => exact rfl
  case c3 => exact rfl
  case c4 => exact rfl
  clear X0 T0
  k_whole
  intro L' h' F₁ N₁
  have F' := thawF (b := il) F₁
  have N' := thawN F₁ N₁ h5
  clear F₁ N₁ h1 h2 h3 h4 h5
  (try dsimp only)
  (try k_fold)
  rcases hj with rfl | rfl
  all_goals k_steps
  · show SlotRes s il [val, x1] .none _
    exact slot_end (by k_asm) (by k_asm) (by k_mem)
  · show SlotRes s il [x0, val] .none _
    exact slot_end (by k_asm) (by k_asm) (by k_mem)
end
end Mine
end
section
open PySem PySem.W PyProof.Rows PySem.Calls PySem.Spec PyProof.V
namespace Mine
theorem pick_tail {v : Value} {us : List Value} (hz : us.length ≤ 900) : (slicePick (v :: us).toArray (some 1) none none).toList = us := by
  rw [kmk_pick_nat (a := 1) (b := us.length + 1)]
  · simp
  · have e : (v :: us).toArray.size = us.length + 1 := by simp
    rw [e]
    simp [sliceBounds]
    omega
theorem slice1 {prog : Program} {w : World} {A : Around} {E : Value → Shared → Prop} {s : Shared} {h₀ : Heap} {L l : Addr} {m : Str → Option Value} {news : List (Addr × Obj)} {n : Nat} {v : Value} {us : List Value} {t : Tok} {value slice : PySem.Expr} {Q : Value → Shared → Prop}
    (F : Fr h₀ L s.heap m) (N : News h₀ L s.heap news) (hm : (l, listOf (v :: us).toArray n) ∈ news) (hz : us.length ≤ 900)
    (h : ∀ D h', Fr h₀ L h' m → News h₀ L h' ((D, listOf us.toArray 0) :: news) → (∀ p ∈ news, p.1 < D) → Q (.ref D) { s with heap := h' })
    (hs : subscripted slice false (.ref l) (.ref s.heap.objs.size) = operate [.ref s.heap.objs.size, .ref l] (getItem (.ref l) (.ref s.heap.objs.size))) (ht : ∀ r, letTemporaryGo value (.ref l) r = pure ()) :
    wpAny (model prog w) A (subscriptTail value slice (.ref l) (.ref s.heap.objs.size)) Q E { s with heap := s.heap.push { cls := .type "slice", data := .fields #[.int 1 t, .none, .none] } } :=
  kmk_slice_lit F N (N.isList hm) (.int 1 t) .none (pick_tail hz) h hs ht (by rw [PySem.sizeLine_eq]; simp; omega)
theorem Path.next {adj : Nat → List Nat} {rs p : List Nat} {x : Nat} (h : Path adj rs p x) : ∀ (i : Nat) (a b : Nat), p[i]? = some a → p[i + 1]? = some b → b ∈ adj a := by
  induction h with
  | root h => intro i a b _ h2; simp at h2
  | @step p x y hp hy ih =>
    intro i a b h1 h2
    by_cases hi : i + 1 < p.length
    · rw [List.getElem?_append_left (by omega)] at h1
      rw [List.getElem?_append_left hi] at h2
      exact ih i a b h1 h2
    · by_cases hi' : i + 1 = p.length
      · rw [List.getElem?_append_right (by omega), hi'] at h2
        simp at h2
        subst h2
        rw [List.getElem?_append_left (by omega)] at h1
        have hx : p[i]? = some x := by
          cases hp with
          | root h => simp at hi'; subst hi'; rfl
          | step hp' hy' => simp at hi'; subst hi'; simp
        rw [hx] at h1
        cases h1
        exact hy
      · rw [List.getElem?_eq_none (by simp; omega)] at h2; cases h2
theorem Path.first {adj : Nat → List Nat} {rs p : List Nat} {x : Nat} (h : Path adj rs p x) : ∃ a q, p = a :: q ∧ a ∈ rs := by
  induction h with
  | root h => exact ⟨_, [], rfl, h⟩
  | step _ _ ih => obtain ⟨a, q, rfl, h⟩ := ih; exact ⟨a, q ++ [_], rfl, h⟩
theorem Path.last {adj : Nat → List Nat} {rs p : List Nat} {x : Nat} (h : Path adj rs p x) : p[p.length - 1]? = some x := by
  cases h with
  | root h => rfl
  | step _ _ => simp
inductive ToldIs (adj : Nat → List Nat) (rs : List Nat) (n x : Nat) (due : Int) (p : List Nat) (t0 : Tok) (a : Nat) (us : List Value) : Prop
  | mk (ha : a ∈ rs) (han : a < n) (hi : IntsAre (.int ((a : Int) + 1) t0 :: us) (p.map fun i => ((i : Nat) : Int) + 1)) (hlen : (us.length : Int) = due) (hz : us.length ≤ 900) (hlast : ∃ t, (Value.int ((a : Int) + 1) t0 :: us)[us.length]? = some (.int ((x : Int) + 1) t))
      (hnext : ∀ (i : Nat) (v w : Value), (Value.int ((a : Int) + 1) t0 :: us)[i]? = some v → us[i]? = some w → ∃ (i' j' : Nat) (t u : Tok), v = .int ((i' : Int) + 1) t ∧ w = .int ((j' : Int) + 1) u ∧ j' ∈ adj i' ∧ i' < n)
      (hnd : (p.map fun i => ((i : Nat) : Int) + 1).Nodup) (hpl : p.length ≤ 900) : ToldIs adj rs n x due p t0 a us
theorem told_is {adj : Nat → List Nat} {rs p : List Nat} {n x : Nat} {due : Int} {items : List Value} (hi : IntsAre items (p.map fun i => ((i : Nat) : Int) + 1)) (hp : Path adj rs p x) (hmin : ∀ p', Path adj rs p' x → p.length ≤ p'.length)
    (hr : ∀ r ∈ rs, r < n) (hout : ∀ i, i < n → ∀ j ∈ adj i, j < n) (hn : n ≤ 4) (hd : due + 1 = p.length)   : ∃ (t0 : Tok) (a : Nat) (us : List Value), items = .int ((a : Int) + 1) t0 :: us ∧ ToldIs adj rs n x due p t0 a us := by
  have hlt := (hp.lt hr hout).2
  have hnd := hp.nodup hmin
  have hpl : p.length ≤ n := nodup_le n p hnd hlt
  have hnx := hp.next
  have hla := hp.last
  obtain ⟨a, q, rfl, ha⟩ := hp.first
  have hil := hi.length
  obtain ⟨t0, us, rfl, hus⟩ := intsC hi
  simp only [List.length_cons, List.length_map] at hil hd hpl
  have hul : us.length = q.length := by omega
  refine ⟨t0, a, us, rfl, ha, hr a ha, hi, by omega, by omega, ?_, ?_, ?_, by simp only [List.length_cons]; omega⟩
  · simp only [List.length_cons, Nat.add_sub_cancel] at hla
    rw [hul]
    exact hi.get _ _ (by rw [List.getElem?_map, hla]; rfl)
  · intro i v w hv hw
    have hw' : (Value.int ((a : Int) + 1) t0 :: us)[i + 1]? = some w := by simpa using hw
    have hib : i + 1 < (a :: q).length := by
      have := List.getElem?_eq_some_iff.mp hw
      obtain ⟨h1, _⟩ := this
      simp only [List.length_cons]; omega
    obtain ⟨t, e⟩ := hi.get i _ (by rw [List.getElem?_map, List.getElem?_eq_getElem (by omega)]; rfl)
    obtain ⟨u, e'⟩ := hi.get (i + 1) _ (by rw [List.getElem?_map, List.getElem?_eq_getElem hib]; rfl)
    rw [hv] at e
    rw [hw'] at e'
    cases e
    cases e'
    exact ⟨_, _, t, u, rfl, rfl, hnx i _ _ (List.getElem?_eq_getElem (by omega)) (List.getElem?_eq_getElem hib), hlt _ (List.getElem_mem (by omega))⟩
  · refine List.Pairwise.map _ (fun x y h e => h ?_) hnd
    omega
section
variable {prog : Program} {w : World} {A : Around} {E : Value → Shared → Prop} {s : Shared} {a b : Int} {t u : Tok} {Q : Value → Shared → Prop}
theorem ne_same (e : a = b) (h : Q (.bool false) s) : wpAny (model prog w) A (compareOp .NotEq (.int a t) (.int b u)) Q E s := ne_int (by subst e; rw [bne_self_eq_false]; exact h)
theorem eq_diff (e : a ≠ b) (h : Q (.bool false) s) : wpAny (model prog w) A (compareOp .Eq (.int a t) (.int b u)) Q E s := eq_int (by rw [beq_eq_false_iff_ne.mpr e]; exact h)
theorem eq_same (e : a = b) (h : Q (.bool true) s) : wpAny (model prog w) A (compareOp .Eq (.int a t) (.int b u)) Q E s := eq_int (by subst e; rw [beq_self_eq_true]; exact h)
theorem item_last {h₀ : Heap} {L l : Addr} {news : List (Addr × Obj)} {v x : Value} {us : List Value} {n : Nat} {k : Int} {value slice : PySem.Expr} (N : News h₀ L s.heap news) (hm : (l, listOf (v :: us).toArray n) ∈ news) (hk : k = -1) (hx : (v :: us)[us.length]? = some x) (h : Q x s)
    (hs : subscripted slice false (.ref l) (.int k u) = operate [.ref l, .int k u] (getItem (.ref l) (.int k u))) : wpAny (model prog w) A (subscriptTail value slice (.ref l) (.int k u)) Q E s := by
  subst hk
  refine kde_neg (N.isList hm) (by decide) (by decide) (j := us.length) ?_ hx h hs
  simp [seqIndex?]
  omega
theorem notin1 {h₀ : Heap} {L D : Addr} {news : List (Addr × Obj)} {vs : List Value} {ns : List Int} {n : Nat} (N : News h₀ L s.heap news) (hm : (D, listOf vs.toArray n) ∈ news) (hi : IntsAre vs ns) (hin : a ∈ ns) (h : Q (.bool false) s) :
    wpAny (model prog w) A (compareOp .NotIn (.int a t) (.ref D)) Q E s := notin_list_ints (N.isList hm) hi (by
    have e : (ns.any (· == a)) = true := List.any_eq_true.mpr ⟨a, hin, by simp⟩
    rw [e]; exact h)
end
theorem stopOr3 {prog : Program} {w : World} {A : Around} {s : Shared} {E : Value → Shared → Prop} {env : Env} {x y z : Expr} {op : BoolOp} {body els : List Stmt} {p q : Pos} {Q : Flow → Shared → Prop} (h : Stop (wpAny (model prog w) A (exec (.If (.BoolOp op [x, y, z] p) body els q) env) Q E s)) : wpAny (model prog w) A (exec (.If (.BoolOp op [x, y, z] p) body els q) env) Q E s := h
inductive KeepPost (s : Shared) (g : Heap) (L : Addr) (m : Str → Option Value) (news : List (Addr × Obj)) (f : Flow) (s' : Shared) : Prop
  | mk (h' : Heap) (tk : Nat) (e1 : f = .next) (e2 : s' = { s with heap := h', toks := tk }) (F : Fr g L h' m) (N : News g L h' news) : KeepPost s g L m news f s'
theorem cutK {M : Model} {A : Around} {t : Sem Flow} {Q : Flow → Shared → Prop} {E : Value → Shared → Prop} {s s0 : Shared} {g : Heap} {L : Addr} {m : Str → Option Value} {news : List (Addr × Obj)} (_ : Fr g L s.heap m) (_ : News g L s.heap news)
    (a : wpAny M A t (KeepPost s0 g L m news) E s) (b : ∀ h' tk, Fr g L h' m → News g L h' news → Q .next { s0 with heap := h', toks := tk }) : wpAny M A t Q E s :=
  wpAny_mono a (fun _ _ ⟨h', tk, e1, e2, F, N⟩ => by subst e1 e2; exact b h' tk F N) fun _ _ e => e
section
local macro_rules | `(tactic| k_inst) => `(tactic| (refine' Mine.inst_frozen ?F ?h1 ?h2; (case F => k_asm); (case h1 => assumption); (case h2 => assumption)))
theorem way_right {w : World} {s : Shared} {l lk : Addr} {rs : List Nat} {gi n : Nat} {ad : Nat → Addr} {adj : Nat → List Nat} {D : List (PyData × PyData)} {due : Int} {td : Tok} {c : Nat} {mean : ExcName → Option Value} {mg mb : Str → Option Value}
    (X : (Mine.hd.heap_1 w.params).In s.heap) (T : Top Mine.view (looseW Mine.view [Str.ofString "SnobolError"]) mean mg mb s.heap)
    (G : GraphAt w s.heap n ad adj) (hn4 : n ≤ 4) (hrs : (∃ a, rs = [a]) ∨ ∃ a b, rs = [a, b]) (hl : s.heap.get? l = some (listOf (rs.map fun r => Value.ref (ad r)).toArray c)) (hr : ∀ r ∈ rs, r < n) (hg : gi < n)
    (hk : LinksAt PySem.Challenge.rw_sj0194_01.row.prog w s.heap lk n adj D)
    (hdue : (due = 99 ∧ ∀ p, ¬ Path adj rs p gi) ∨ (∃ p, Path adj rs p gi ∧ (∀ p', Path adj rs p' gi → p.length ≤ p'.length) ∧ due + 1 = p.length ∧ due ≠ 99)) :
    wpAny (model PySem.Challenge.rw_sj0194_01.row.prog w) (AA 350 350) (call (.ref 390) [.ref l, .ref (ad gi), .ref lk, .int due td]) (ValRes s (.bool true)) (fun _ _ => False) s := by
  revert T X; k_fill; intro X T
  have hsl : ∃ k, Slots w s.heap (rs.map fun r => Value.ref (ad r)) (rs.map ad) k := by
    clear hl hrs hdue
    induction rs with
    | nil => exact ⟨0, .nil⟩
    | cons a t ih =>
      obtain ⟨k, hk⟩ := ih fun r h => hr r (.tail _ h)
      obtain ⟨il, vs', c', k', ts', harr, -⟩ := G.node a (hr a (.head _))
      exact ⟨1 + k, Slots.cons (as := [ad a]) (.arr harr) hk⟩
  obtain ⟨k0, hsl⟩ := hsl
  have hrl : (rs.map fun r => Value.ref (ad r)).length ≤ 5 := by
    rcases hrs with ⟨a, rfl⟩ | ⟨a, b, rfl⟩ <;> simp
  obtain ⟨ilg, vsg, cg, kg, tsg, harrg, -⟩ := G.node gi hg
  obtain ⟨dg, t1, t2, t3, t4, t5, t6, t7, t8, t9, t10, bl, e1, e2⟩ := id harrg
  k_with_none
  w_top off
  k_with "call ref" => (refine use_way (d := 400) (u := 400) (by k_asm) (by k_asm) rfl (Nat.le_of_ble_eq_true rfl) (Nat.le_of_ble_eq_true rfl) (way_to_spec (X.keeps (Fr.keep (by k_asm))) (T.keeps (Fr.keep (by k_asm))) (G.keeps (Fr.keep (by k_asm))) hn4 (Fr.keep (by k_asm) _ _ hl) hrl (hsl.keeps (Fr.keep (by k_asm))) hr) ?_ ?_; · (intro h' tk' hno9 F' N'); · (refine Mine.stop ?_))
  k_with "eval ListComp" => (first | refine Mine.stopC ?_ | refine Mine.stopP ?_)
  refine wpAny_call ?_
  refine' enter_fnC (binds := [(Str.ofString "roots", .ref l), (Str.ofString "goal", .ref (ad gi)), (Str.ofString "links", .ref lk), (Str.ofString "due", .int due td)]) ?k4 ?k5 ?k6 ?k7 ?k8 ?k9 ?kB ?kD ?_ ?c2 ?c3 ?c4
  case k4 => exact X
  case k5 => exact T
  case k6 => k_is
  case k7 => k_is
  case k8 => decide
  case k9 => exact BindsTo.of_eq rfl
  case kB => exact rfl
  case kD => decide +kernel
  case c2 => exact rfl
  case c3 => exact rfl
  case c4 => exact rfl
  k_whole
  intro L' h' tk' cells' F' N' Y'
  k_cells Y'
  (try dsimp only)
  (try k_fold)
  k_steps
  refine use_way (d := 400) (u := 400) (by k_asm) (by k_asm) rfl (Nat.le_of_ble_eq_true rfl) (Nat.le_of_ble_eq_true rfl) (way_to_spec (X.keeps (Fr.keep (by k_asm))) (T.keeps (Fr.keep (by k_asm))) (G.keeps (Fr.keep (by k_asm))) hn4 (Fr.keep (by k_asm) _ _ hl) hrl (hsl.keeps (Fr.keep (by k_asm))) hr) ?zz1 ?zz2
  case zz1 =>
    intro h' tk' hno9 F' N'
    have hd99 : due = 99 := by
      rcases hdue with ⟨h, _⟩ | ⟨p, hp, _⟩
      · exact h
      · exact absurd rfl (hno9 gi p hp)
    subst hd99
    k_steps
    exact ⟨_, _, rfl, rfl, Fr.keep (by k_asm)⟩
  case zz2 =>
    intro items p x r h' tk' n' hi hp hx hmin F' N' hne
    have hxg : x = gi := by omega
    subst hxg
    have hdd : due + 1 = p.length ∧ due ≠ 99 := by
      rcases hdue with ⟨_, h⟩ | ⟨p0, hp0, hm0, h1, h2⟩
      · exact absurd hp (h p)
      · have := hm0 p hp
        have := hmin p0 hp0
        exact ⟨by omega, h2⟩
    obtain ⟨t0, a, us, rfl, ha, han, hi', hdu, hz, ⟨tl, hlast⟩, hnext, hnd, hpl⟩ := told_is hi hp hmin hr G.out hn4 hdd.1
    have hd99 := hdd.2
    clear hdd hdue hi hmin hp
    subst hdu
    have hroots : ((a : Int) + 1) ∈ rs.map fun r => ((r : Nat) : Int) + 1 := List.mem_map_of_mem (f := fun r => ((r : Nat) : Int) + 1) ha
    k_with "call builtin:len" => (k_dflt (refine Mine.lenC (by k_asm) (by k_mem) hz ?_))
    k_with "subscriptTail Name UnaryOp ref int" => (k_dflt (refine' Mine.item_last (by k_asm) (by k_mem) rfl hlast ?_ ?zs; (case zs => with_unfolding_all rfl)))
    k_with "subscriptTail Name Constant ref int" => (k_dflt (refine' Mine.item1 (vs := .int ((a : Int) + 1) t0 :: us) (by k_asm) (by k_mem) (by decide) (by decide) (v := .int ((a : Int) + 1) t0) rfl ?_ ?zs; (case zs => with_unfolding_all rfl)))
    k_with "compareOp NotEq int int" => (k_dflt (refine Mine.ne_same rfl ?_))
    k_with "compareOp Eq int int" => k_dflt (first | (refine Mine.eq_diff hd99 ?_) | (refine Mine.eq_same rfl ?_))
    k_with "exec If" => (refine Mine.stopOr3 ?_)
    k_steps
    change wpAny _ _ _ _ _ _
    rename Fr _ _ _ _ => F1
    rename News _ _ _ _ => N1
    refine cutK (s0 := s) F1 N1 ?za ?zb
    case za =>
      k_with_none
      w_top off
      k_with "call builtin:len" => (k_dflt (refine Mine.lenC (by k_asm) (by k_mem) hz ?_))
      k_with "subscriptTail Name UnaryOp ref int" => (k_dflt (refine' Mine.item_last (by k_asm) (by k_mem) rfl hlast ?_ ?zs; (case zs => with_unfolding_all rfl)))
      k_with "subscriptTail Name Constant ref int" => (k_dflt (refine' Mine.item1 (vs := .int ((a : Int) + 1) t0 :: us) (by k_asm) (by k_mem) (by decide) (by decide) (v := .int ((a : Int) + 1) t0) rfl ?_ ?zs; (case zs => with_unfolding_all rfl)))
      k_with "compareOp NotEq int int" => (k_dflt (refine Mine.ne_same rfl ?_))
      k_with "compareOp Eq int int" => k_dflt (first | (refine Mine.eq_diff hd99 ?_) | (refine Mine.eq_same rfl ?_))
      rcases hrs with ⟨r1, rfl⟩ | ⟨r1, r2, rfl⟩
      · have hL : s.heap.IsList l [Value.ref (ad r1)].toArray := ⟨_, hl, rfl, _, rfl⟩
        obtain ⟨il1, vs1, c1, k1, ts1, ⟨d1, u1, u2, u3, u4, u5, u6, u7, u8, u9, u10, bl1, e3, e4⟩, -⟩ := G.node r1 (hr r1 (by simp))
        k_with "compareOp NotIn int ref" => (k_dflt (refine Mine.notin1 (by k_asm) (List.Mem.head _) (.cons _ _ .nil) hroots ?_))
        k_steps
        exact ⟨_, _, rfl, rfl, by k_asm, news_sub (by k_asm) (fun _ hp => .tail _ hp)⟩
      · have hL : s.heap.IsList l [Value.ref (ad r1), Value.ref (ad r2)].toArray := ⟨_, hl, rfl, _, rfl⟩
        obtain ⟨il1, vs1, c1, k1, ts1, ⟨d1, u1, u2, u3, u4, u5, u6, u7, u8, u9, u10, bl1, e3, e4⟩, -⟩ := G.node r1 (hr r1 (by simp))
        obtain ⟨il2, vs2, c2, k2, ts2, ⟨d2, z1, z2, z3, z4, z5, z6, z7, z8, z9, z10, bl2, e5, e6⟩, -⟩ := G.node r2 (hr r2 (by simp))
        k_with "compareOp NotIn int ref" => (k_dflt (refine Mine.notin1 (by k_asm) (List.Mem.head _) (.cons _ _ (.cons _ _ .nil)) hroots ?_))
        k_steps
        exact ⟨_, _, rfl, rfl, by k_asm, news_sub (by k_asm) (fun _ hp => .tail _ hp)⟩
    case zb =>
      clear F1 N1
      intro h' tk' F' N'
      k_with "eval ListComp" => (first | refine Mine.stopC ?_ | refine Mine.stopP ?_)
      k_steps
      change wpAny _ _ _ _ _ _
      refine' comp_zip ?zq1 ?zq2 ?zq3 ?zq4 ?zq5 ?zq6 ?zq7
      case zq1 => with_unfolding_all rfl
      case zq2 => decide
      case zq3 => rfl
      case zq4 => decide
      case zq5 => rfl
      case zq7 => intro _; with_unfolding_all rfl
      case zq6 =>
        k_with "call type:zip" => (refine Mine.stop ?_)
        k_with "subscriptTail Name Slice ref ref" => (k_dflt (refine' Mine.slice1 (v := .int ((a : Int) + 1) t0) (us := us) (by k_asm) (by k_asm) (by k_mem) hz ?_ ?zs ?zt; (case zs => with_unfolding_all rfl); (case zt => (intro _; with_unfolding_all rfl))); intro D' h' F' N' l1; k_lt l1)
        k_steps
        change wpAny _ _ _ _ _ _
        refine zip_src (by k_asm) (by k_asm) rfl (by k_mem) (by k_mem) rfl ?zr1 ?zr2
        case zr1 =>
          intro i' a' b' T' C' oC' h' tk' m' E' ha' hb' hC' hx' F' N'
          obtain ⟨i2, j2, t2, u2, rfl, rfl, hj2, hi2⟩ := hnext i' a' b' ha' hb'
          k_with "compareOp NotIn ref ref" => (refine Mine.notin_link (by k_asm) (by k_asm) hk (Nat.le_of_ble_eq_true rfl) (by k_mem) hj2 hi2 ?_; intro tk9)
          k_steps
        case zr2 =>
          intro D' h' tk' F' N' off'
          k_steps
          change wpAny _ _ _ _ _ _
          refine' comp_pairs rfl ?zt1 ?zt2 ?zt3 ?zt4 ?zt5 ?zt6 ?zt7 ?zt8
          case zt1 => with_unfolding_all rfl
          case zt2 => decide
          case zt3 => rfl
          case zt4 => decide
          case zt5 => rfl
          case zt6 => decide
          case zt8 => intro _; with_unfolding_all rfl
          case zt7 =>
            k_steps
            refine ⟨_, _, _, _, _, _, rfl, by k_asm, by k_asm, by k_mem, by rw [PySem.sizeLine_eq]; simp only [List.length_cons]; omega, ?_⟩
            intro D' h' tk' items' n' F' N' off' hT9
            k_with "call type:dict" => (refine Mine.use_dict2 (by k_asm) (by k_asm) rfl (Top.nolimit (by k_asm)) (by k_mem) hT9 hi' (by rw [PySem.sizeLine_eq, List.length_map]; omega) hnd ?_; intro d' h' tk' o' kvs' F' N' l1 lo' hd' hf')
            k_steps
            have hml := hi'.length
            clear hk hT9 hne off' hf' hd' hnext hlast
            exact ⟨_, _, congrArg Value.bool (by simp only [List.length_map, List.length_cons] at hml ⊢; rw [beq_iff_eq, ← hml]; rfl), rfl, Fr.keep (by k_asm)⟩
end
end Mine
end
section
open PySem PySem.W PyProof.Rows PySem.Calls PySem.Spec
namespace Mine
noncomputable abbrev lawEnv (L fa : Addr) (cv : Value) : Env := envOfC (Str.ofString "law") lawScope L fa cv
noncomputable def lawS (i : Nat) : Stmt := lawBody.getD i (.Pass ⟨0, 0, 0, 0⟩)
def NextP (P : Shared → Prop) (fl : Flow) (s : Shared) : Prop := fl = .next ∧ P s
theorem nextP {P : Shared → Prop} {s : Shared} (h : P s) : NextP P .next s := ⟨rfl, h⟩
def Apart (l : List Nat) : Prop := l.Nodup
abbrev SameS (s0 s : Shared) : Prop := s.gens = s0.gens ∧ s.drawn = s0.drawn ∧ s.os = s0.os
structure P0 (s0 : Shared) (w : World) (g : Heap) (L l b sc wa wd hA lk : Addr) (od olk oc : Obj) (items : List Value) (ns : List Int) (n0 n1 nh : Nat) (tc : Tok) (s : Shared) : Prop where
  F : Fr g L s.heap (fun y => if y = Str.ofString "links" then some (.ref lk) else if y = Str.ofString "box" then some (.ref b) else if y = Str.ofString "script" then some (.ref l) else none)
  N : News g L s.heap [(b, PySem.W.listOf [.ref sc, .int 0 tc].toArray n0), (sc, PySem.W.listOf items.toArray n1), (wa, instObj 320 wd), (wd, od), (hA, PySem.W.listOf ([] : List Value).toArray nh), (lk, olk), (L + 1, oc)]
  ap : Apart [b, sc, wa, wd, hA, lk, L + 1]
  W : WorldIs w od hA 0
  hoc : oc.data = .cell (some (.ref wa))
  hints : IntsAre items ns
  len : items.length ≤ 63
  lo : (lk == sysModules) = false
  dict : Obj.IsDictOf (intKind PySem.Challenge.rw_sj0194_01.row.prog w) olk []
  sm : SameS s0 s
section
local macro_rules | `(tactic| k_all) => `(tactic| assumption)
inductive P_law_s0 (w : World) (s : Shared) (g : Heap) (l : Addr) (L : Addr) (s' : Shared) : Prop
  | mk (b sc wa wd hA lk od olk oc items ns n0 n1 nh tc) (e1 : P0 s w g L l b sc wa wd hA lk od olk oc items ns n0 n1 nh tc s') : P_law_s0 w s g l L s'
theorem law_s0 {w : World} {s : Shared} {g : Heap} {fa l L : Addr} {cv : Value} {vs : List Value} {ns : List Int} {oc : Obj} {mean : ExcName → Option Value} {mg mb : Str → Option Value}
    (X : (Mine.hd.heap_1 w.params).In g) (T : Top Mine.view (looseW Mine.view [Str.ofString "SnobolError"]) mean mg mb g)
    (F : Fr g L s.heap (fun y => if y = Str.ofString "script" then some (.ref l) else none)) (N : News g L s.heap [(L + 1, oc)]) (hoc : oc.data = .cell none) (hl : g.IsList l vs.toArray) (hI : IntsAre vs ns) (hlen : vs.length ≤ 63) :
    wpAny (model PySem.Challenge.rw_sj0194_01.row.prog w) ((AA 310 200).deeper (lawEnv L fa cv)) (exec (lawS 0) (lawEnv L fa cv)) (NextP (P_law_s0 w s g l L)) (fun _ _ => False) s := by
  dsimp only [lawEnv, lawS, lawBody, lawScope, lawP, mkLaw, gz, gs]
  revert T X; k_fill; intro X T
  k_with_none
  w_top off
  k_with "call ref" => refine Mine.stop ?_
  have F' := F
  have N' := N
  clear F N
  k_whole
  (try k_fold)
  k_steps
  change wpAny _ _ _ _ _ _
  rename Fr _ _ _ _ => F1
  rename News _ _ _ _ => N1
  refine weaken 600 600 rfl (Nat.le_of_ble_eq_true rfl) (Nat.le_of_ble_eq_true rfl) (wpAny_mono (world_new X T F1 N1) (fun v s' hr => ?_) fun _ _ x => x.elim)
  obtain ⟨wa, wd, hlA, od, h', tk, nh, rfl, rfl, F', N', W, q1, q2, q3, q4, q5, q6⟩ := hr
  clear F1 N1
  simp only [List.forall_mem_cons] at q4 q5 q6
  obtain ⟨a1, a2, a3, a4, -⟩ := q4
  obtain ⟨b1, b2, b3, b4, -⟩ := q5
  obtain ⟨c1, c2, c3, c4, -⟩ := q6
  replace a1 := (show @Ne Nat _ _ from a1)
  replace a2 := (show @Ne Nat _ _ from a2)
  replace a3 := (show @Ne Nat _ _ from a3)
  replace a4 := (show @Ne Nat _ _ from a4)
  replace b1 := (show @Ne Nat _ _ from b1)
  replace b2 := (show @Ne Nat _ _ from b2)
  replace b3 := (show @Ne Nat _ _ from b3)
  replace b4 := (show @Ne Nat _ _ from b4)
  replace c1 := (show @Ne Nat _ _ from c1)
  replace c2 := (show @Ne Nat _ _ from c2)
  replace c3 := (show @Ne Nat _ _ from c3)
  replace c4 := (show @Ne Nat _ _ from c4)
  k_steps
  refine nextP ⟨_, _, _, _, _, _, _, _, _, _, _, _, _, _, _, ⟨by k_asm, news_sub (by k_asm) (by
    intro p hp
    rcases List.mem_cons.mp hp with rfl | hp
    · k_mem
    rcases List.mem_cons.mp hp with rfl | hp
    · k_mem
    rcases List.mem_cons.mp hp with rfl | hp
    · k_mem
    rcases List.mem_cons.mp hp with rfl | hp
    · k_mem
    rcases List.mem_cons.mp hp with rfl | hp
    · k_mem
    rcases List.mem_cons.mp hp with rfl | hp
    · k_mem
    rw [List.mem_singleton.mp hp]
    k_mem), ?ap, W, by assumption, by assumption, ?ln, by assumption, by assumption, ⟨rfl, rfl, rfl⟩⟩⟩
  case ln =>
    have h9 := IntsAre.length (by assumption : IntsAre _ (List.take 60 ns))
    exact Nat.le_trans (Nat.le_of_eq h9) (Nat.le_trans (List.length_take_le 60 ns) (Nat.le_of_ble_eq_true rfl))
  simp only [Apart, List.nodup_cons, List.mem_cons, List.not_mem_nil, or_false, not_or, not_false_eq_true, List.nodup_nil, and_true]
  and_intros <;> omega
end
end Mine
end
section
open PySem PySem.W PyProof.Rows PySem.Calls PySem.Spec
namespace Mine
theorem use_take {w : World} {A : Around} {s : Shared} {g : Heap} {L b sc : Addr} {m : Str → Option Value} {tail : List (Addr × Obj)} {items : List Value} {ns : List Int} {c : Int} {tc tw : Tok} {n0 n1 : Nat} {wide : Int} {mean : ExcName → Option Value} {mg mb : Str → Option Value} {Q : Value → Shared → Prop} {E : Value → Shared → Prop}
    (X : KIn w g) (T : TopAt mean mg mb g) (F : Fr g L s.heap m) (N : News g L s.heap ((b, PySem.W.listOf [.ref sc, .int c tc].toArray n0) :: (sc, PySem.W.listOf items.toArray n1) :: tail)) (hh : A.handled = none) (hd : A.depth ≤ 320) (hu : A.units ≤ 320)
    (hbs : @Ne Nat b sc) (ht1 : ∀ p ∈ tail, p.1 ≠ b) (ht2 : ∀ p ∈ tail, p.1 ≠ sc) (hI : IntsAre items ns) (hlen : items.length ≤ 100) (hw : 0 < wide) (hw2 : wide ≤ 10) (hc0 : 0 ≤ c) (hc1 : c ≤ 1000)
    (k : ∀ h' tk x tx t' items' ns' n0' n1', 0 ≤ x → x < wide → IntsAre items' ns' → items'.length ≤ 100 → Fr g L h' m → News g L h' ((b, PySem.W.listOf [.ref sc, .int (c + 1) t'].toArray n0') :: (sc, PySem.W.listOf items'.toArray n1') :: tail) → Q (.int x tx) { s with heap := h', toks := tk }) :
    wpAny (model PySem.Challenge.rw_sj0194_01.row.prog w) A (call (.ref 378) [.ref b, .int wide tw]) Q E s := by
  refine weaken 320 320 hh hd hu (wpAny_mono (take_spec X T F N hbs ht1 ht2 hI hlen hw hw2 hc0 hc1) (fun v s' hr => ?_) fun _ _ x => x.elim)
  obtain ⟨h', tk, x, tx, c', t', items', ns', n0', n1', rfl, rfl, rfl, a1, a2, a3, a4, a5, a6⟩ := hr
  exact k h' tk x tx t' items' ns' n0' n1' a1 a2 a3 a4 a5 a6
structure P1 (s0 : Shared) (w : World) (g : Heap) (L l b sc wa wd hA lk : Addr) (od olk oc : Obj) (items : List Value) (ns : List Int) (n0 n1 nh : Nat) (tc : Tok) (n : Nat) (tm : Tok) (s : Shared) : Prop where
  F : Fr g L s.heap (fun y => if y = Str.ofString "many" then some (.int (n : Int) tm) else if y = Str.ofString "links" then some (.ref lk) else if y = Str.ofString "box" then some (.ref b) else if y = Str.ofString "script" then some (.ref l) else none)
  N : News g L s.heap ((b, PySem.W.listOf [.ref sc, .int 1 tc].toArray n0) :: (sc, PySem.W.listOf items.toArray n1) :: [(wa, instObj 320 wd), (wd, od), (hA, PySem.W.listOf ([] : List Value).toArray nh), (lk, olk), (L + 1, oc)])
  ap : Apart [b, sc, wa, wd, hA, lk, L + 1]
  W : WorldIs w od hA 0
  hoc : oc.data = .cell (some (.ref wa))
  hints : IntsAre items ns
  len : items.length ≤ 100
  lo : (lk == sysModules) = false
  dict : Obj.IsDictOf (intKind PySem.Challenge.rw_sj0194_01.row.prog w) olk []
  hn : n = 3 ∨ n = 4
  sm : SameS s0 s
section
local macro_rules | `(tactic| k_all) => `(tactic| assumption)
theorem law_s1 {s0 : Shared} {w : World} {s : Shared} {g : Heap} {fa L l b sc wa wd hA lk : Addr} {cv : Value} {od olk oc : Obj} {items : List Value} {ns : List Int} {n0 n1 nh : Nat} {tc : Tok} {mean : ExcName → Option Value} {mg mb : Str → Option Value}
    (X : (Mine.hd.heap_1 w.params).In g) (T : Top Mine.view (looseW Mine.view [Str.ofString "SnobolError"]) mean mg mb g)
    (P : P0 s0 w g L l b sc wa wd hA lk od olk oc items ns n0 n1 nh tc s) :
    wpAny (model PySem.Challenge.rw_sj0194_01.row.prog w) ((AA 310 200).deeper (lawEnv L fa cv)) (exec (lawS 1) (lawEnv L fa cv)) (NextP fun s' => ∃ items ns n0 n1 tc n tm, P1 s0 w g L l b sc wa wd hA lk od olk oc items ns n0 n1 nh tc n tm s') (fun _ _ => False) s := by
  dsimp only [lawEnv, lawS, lawBody, lawScope, lawP, mkLaw, gz, gs]
  revert T X; k_fill; intro X T
  k_with_none
  w_top off
  k_with "call ref" => refine Mine.stop ?_
  obtain ⟨F', N', ap, W, hoc, hI, hlen, lo, hdict, sm⟩ := P
  have ap0 := ap
  simp only [Apart, List.nodup_cons, List.mem_cons, List.not_mem_nil, or_false, not_or, not_false_eq_true, List.nodup_nil, and_true] at ap
  obtain ⟨⟨x1, x2, x3, x4, x5, x6⟩, ⟨y2, y3, y4, y5, y6⟩, -⟩ := ap
  k_whole
  (try k_fold)
  k_steps
  change wpAny _ _ _ _ _ _
  refine use_take X T F' N' rfl (Nat.le_of_ble_eq_true rfl) (Nat.le_of_ble_eq_true rfl) x1 ?_ ?_ hI (by omega) (by decide) (by decide) (by decide) (by decide) ?_
  · exact List.forall_mem_cons.2 ⟨Ne.symm x2, List.forall_mem_cons.2 ⟨Ne.symm x3, List.forall_mem_cons.2 ⟨Ne.symm x4, List.forall_mem_cons.2 ⟨Ne.symm x5, List.forall_mem_cons.2 ⟨Ne.symm x6, fun p hp => nomatch hp⟩⟩⟩⟩⟩
  · exact List.forall_mem_cons.2 ⟨Ne.symm y2, List.forall_mem_cons.2 ⟨Ne.symm y3, List.forall_mem_cons.2 ⟨Ne.symm y4, List.forall_mem_cons.2 ⟨Ne.symm y5, List.forall_mem_cons.2 ⟨Ne.symm y6, fun p hp => nomatch hp⟩⟩⟩⟩⟩
  clear F' N'
  rintro h' tk' x tx t' items' ns' n0' n1' hx0 hx1 hI' hl' F' N'
  obtain ⟨n, hn, hnn⟩ : ∃ n : Nat, (4 - x : Int) = (n : Int) ∧ (n = 3 ∨ n = 4) := ⟨(4 - x).toNat, by omega, by omega⟩
  k_steps
  rename Fr _ _ _ _ => F1
  rename News _ _ _ _ => N1
  rw [hn] at F1
  exact nextP ⟨_, _, _, _, _, n, _, ⟨F1, N1, ap0, W, hoc, hI', hl', lo, hdict, hnn, sm⟩⟩
end
end Mine
end
section
open PySem PySem.W PyProof.Rows PySem.Calls PySem.Spec
namespace Mine
open PyProof.Rows.LCg in
theorem comp_rest_ind {prog : Program} {w : World} {A : Around} {h₀ : Heap} {L : Addr} {m : Str → Option Value} {env : Env} {elt : Expr} {x : Str} {scope : Scope} {cl : List (Str × Addr)} {s : Shared} {S : List (Addr × Obj) → Prop} {P : Nat → Value → Prop} {Fin : List Value → List (Addr × Obj) → Prop}
    (J : Nat → List Value → List (Addr × Obj) → Prop) (n : Nat)
    (step : ∀ i ys news, i < n → J i ys news → ∀ v I oI C oC D m₂ h tk (E' : Value → Shared → Prop), P i v → NsObj oC m₂ → m₂ x = some v → Fr h₀ L h m → News h₀ L h ((I, oI) :: (C, oC) :: (D, lst ys) :: news) → Off3 I C D news → ((@Ne Nat I C) ∧ (@Ne Nat I D) ∧ (@Ne Nat C D)) →
      wpAny (model prog w) A (eval elt (compEnvC scope cl C env)) (CompEnd h₀ L m { s with heap := h, toks := tk } I oI C oC D (lst ys) S (fun y news' => J (i + 1) (ys ++ [y]) news')) E' { s with heap := h, toks := tk })
    (fin : ∀ ys news, J n ys news → Fin ys news) : ∀ k i ys news, i + k = n → J i ys news → CompRest prog w A h₀ L m env elt x scope cl s S P Fin k i ys news
  | 0, i, ys, news, hik, hJ => CompRest.zero (fin ys news (by rw [Nat.add_zero] at hik; rw [← hik]; exact hJ))
  | k + 1, i, ys, news, hik, hJ => CompRest.succ fun v I oI C oC D m₂ h tk E' h1 h2 h3 F N off ne => wpAny_mono (step i ys news (by omega) hJ v I oI C oC D m₂ h tk E' h1 h2 h3 F N off ne)
      (fun y s' hr => by
        obtain ⟨h', tk', news', e, F', N', off', hS, hr⟩ := hr
        exact ⟨h', tk', news', e, F', N', off', hS, comp_rest_ind J n step fin k (i + 1) (ys ++ [y]) news' (by omega) hr⟩)
      fun _ _ x => x
structure ArrRec where
  a : Addr
  d : Addr
  il : Addr
  bl : Addr
  tp : Addr
structure ArrL (w : World) (Z : List (Addr × Obj)) (r : ArrRec) (k : Int) : Prop where
  inst : (r.a, instObj 208 r.d) ∈ Z
  dict : ∃ oa, (r.d, oa) ∈ Z ∧ ArrDict w oa k r.bl r.il
  bnd : ∃ nb, (r.bl, PySem.W.listOf #[.ref r.tp] nb) ∈ Z
  tup : ∃ t1 t2, (r.tp, tupOf [.int 1 t1, .int 2 t2]) ∈ Z
  items : ∃ u1 u2 c, (r.il, PySem.W.listOf #[.str (Str.ofString "") u1, .str (Str.ofString "") u2] c) ∈ Z
theorem ArrL.more {w : World} {Z Z' : List (Addr × Obj)} {r : ArrRec} {k : Int} (h : ArrL w Z r k) (hs : ∀ p ∈ Z, p ∈ Z') : ArrL w Z' r k := by
  obtain ⟨a, ⟨oa, b1, b2⟩, ⟨nb, c⟩, ⟨t1, t2, e⟩, u1, u2, c', f⟩ := h
  exact ⟨hs _ a, ⟨oa, hs _ b1, b2⟩, ⟨nb, hs _ c⟩, ⟨t1, t2, hs _ e⟩, u1, u2, c', hs _ f⟩
theorem use_made {w : World} {A : Around} {s : Shared} {g : Heap} {L : Addr} {m : Str → Option Value} {news rest : List (Addr × Obj)} {Q : Value → Shared → Prop} {E : Value → Shared → Prop} {mean : ExcName → Option Value} {mg mb : Str → Option Value}
    {wa wd hl : Addr} {od : Obj} {made : Int} {n : Nat} {hv : List Value} {t v : Tok} (X : KIn w g) (T : TopAt mean mg mb g) (F : Fr g L s.heap m) (N : News g L s.heap news) (hh : A.handled = none) (hd : A.depth ≤ 400) (hu : A.units ≤ 400)
    (m1 : (wa, instObj 320 wd) ∈ news) (m2 : (wd, od) ∈ news) (m3 : (hl, PySem.W.listOf hv.toArray n) ∈ news) (W : WorldIs w od hl made) (n0 : @Ne Nat wa wd) (n1 : @Ne Nat wa hl) (n2 : @Ne Nat wd hl) (hlen : hv.length ≤ 100) (hm0 : 0 ≤ made) (hm1 : made ≤ 100)
    (hs : ∀ p ∈ rest, p ∈ news ∧ p.1 ≠ wd ∧ p.1 ≠ hl)
    (k : ∀ h' tk n' od' r nx, Fr g L h' m → News g L h' ((wd, od') :: (hl, PySem.W.listOf (hv ++ [Value.ref (ArrRec.a r)]).toArray n') :: (nx ++ rest)) → WorldIs w od' hl (made + 1) → ArrL w nx r (made + 1) → (∀ p ∈ nx, ∀ q ∈ news, q.1 ≠ p.1) → Q (.ref r.a) { s with heap := h', toks := tk }) :
    wpAny (model PySem.Challenge.rw_sj0194_01.row.prog w) A (call (.ref 345) [.ref wa, .str (Str.ofString "2") t, .str (Str.ofString "") v]) Q E s := by
  refine weaken 400 400 hh hd hu (wpAny_mono (made_spec X T F.keep (N _ m1).2.2 (N _ m2).2.2 (N _ m3).2.2 (N _ m1).1 (N _ m2).1 (N _ m3).1 W n0 n1 n2 hlen hm0 hm1) (fun v s' hr => ?_) fun _ _ x => x.elim)
  obtain ⟨a, d, il, bl, tp, od', oa, h', tk, n, n1', n2', t1, t2, u1, u2, rfl, rfl, B, e1, W', e2, hoa, hnew⟩ := hr
  have hne : ∀ p ∈ [(a, instObj 208 d), (d, oa), (il, PySem.W.listOf #[.str (Str.ofString "") u1, .str (Str.ofString "") u2] n1'), (bl, PySem.W.listOf #[.ref tp] n2'), (tp, tupOf [.int 1 t1, .int 2 t2])], ∀ q ∈ news, q.1 ≠ p.1 := fun p hp q hq e => by
    have h1 := (N q hq).1
    rw [e, (hnew p hp).2] at h1; cases h1
  have hgn : ∀ x, s.heap.get? x = none → g.get? x = none := fun x e => by
    cases q : g.get? x with
    | none => rfl
    | some o => rw [F.keep _ _ q] at e; cases e
  have hLn : ∀ x, s.heap.get? x = none → x ≠ L := fun x e q => by
    obtain ⟨oL, _, _, hL, _⟩ := F.ns
    rw [← q, e] at hL; cases hL
  refine k h' tk n od' ⟨a, d, il, bl, tp⟩ _ (B.fr F (fun x hx => ?_) (fun hL => ?_)) (fun p hp => ?_) W' ⟨.head _, ⟨oa, .tail _ (.head _), hoa⟩, ⟨n2', .tail _ (.tail _ (.tail _ (.head _)))⟩, ⟨t1, t2, .tail _ (.tail _ (.tail _ (.tail _ (.head _))))⟩, u1, u2, n1', .tail _ (.tail _ (.head _))⟩ hne
  · rcases List.mem_cons.mp hx with rfl | hx
    · exact (N _ m2).2.2
    · rw [List.mem_singleton.mp hx]; exact (N _ m3).2.2
  · rcases List.mem_cons.mp hL with hL | hL
    · exact (N _ m2).2.1 hL.symm
    · exact (N _ m3).2.1 (List.mem_singleton.mp hL).symm
  · rcases List.mem_cons.mp hp with rfl | hp
    · exact ⟨e1, (N _ m2).2⟩
    · rcases List.mem_cons.mp hp with rfl | hp
      · exact ⟨e2, (N _ m3).2⟩
      · rcases List.mem_append.mp hp with hp | hp
        · exact ⟨(hnew p hp).1, hLn _ (hnew p hp).2, hgn _ (hnew p hp).2⟩
        · obtain ⟨h1, h2, h3⟩ := hs p hp
          exact ⟨B _ _ (fun q => by simp only [List.mem_cons, List.not_mem_nil, or_false] at q; exact q.elim h2 h3) (N p h1).1, (N p h1).2⟩
structure MJ (w : World) (L b sc wa wd hA lk : Addr) (bo so olk oc : Obj) (i : Nat) (ys : List Value) (news : List (Addr × Obj)) (od : Obj) (nh : Nat) (as : List ArrRec) (Z : List (Addr × Obj)) : Prop where
  news_ : news = [(b, bo), (sc, so), (wa, instObj 320 wd), (wd, od), (hA, PySem.W.listOf ys.toArray nh), (lk, olk), (L + 1, oc)] ++ Z
  W : WorldIs w od hA i
  ys_ : ys = as.map fun r => Value.ref r.a
  len : as.length = i
  arr : ∀ (j : Nat) (r : ArrRec), as[j]? = some r → ArrL w Z r ((j : Int) + 1)
  ils : (as.map fun r => r.il).Nodup
  off : ∀ p ∈ Z, p.1 ∉ [b, sc, wa, wd, hA, lk, L + 1]
theorem MJ.next {w : World} {L b sc wa wd hA lk : Addr} {bo so olk oc : Obj} {i : Nat} {ys : List Value} {news all : List (Addr × Obj)} {od od' : Obj} {nh n' : Nat} {as : List ArrRec} {Z nx : List (Addr × Obj)} {r : ArrRec}
    (M : MJ w L b sc wa wd hA lk bo so olk oc i ys news od nh as Z) (W' : WorldIs w od' hA (i + 1)) (hr : ArrL w nx r (i + 1)) (hn : ∀ p ∈ nx, ∀ q ∈ all, q.1 ≠ p.1) (hall : ∀ q ∈ news, q ∈ all) :
    MJ w L b sc wa wd hA lk bo so olk oc (i + 1) (ys ++ [.ref r.a]) ([(b, bo), (sc, so), (wa, instObj 320 wd), (wd, od'), (hA, PySem.W.listOf (ys ++ [Value.ref r.a]).toArray n'), (lk, olk), (L + 1, oc)] ++ (nx ++ Z)) od' n' (as ++ [r]) (nx ++ Z) := by
  have hZ : ∀ q ∈ Z, q ∈ all := fun q hq => hall q (by rw [M.news_]; exact List.mem_append.mpr (.inr hq))
  refine ⟨rfl, by simpa using W', by rw [M.ys_]; simp, by simp [M.len], fun j r' hj => ?_, ?_, fun p hp => ?_⟩
  · by_cases h : j < as.length
    · rw [List.getElem?_append_left h] at hj
      exact (M.arr j r' hj).more fun p hp => List.mem_append.mpr (.inr hp)
    · have hl := M.len
      rw [List.getElem?_append_right (by omega)] at hj
      have h0 : j - as.length = 0 := by
        rcases h9 : j - as.length with _ | k
        · rfl
        · rw [h9] at hj; simp at hj
      rw [h0] at hj
      simp only [List.getElem?_cons_zero, Option.some.injEq] at hj
      subst hj
      have : j = i := by omega
      subst this
      exact hr.more fun p hp => List.mem_append.mpr (.inl hp)
  · rw [List.map_append, List.nodup_append]
    refine ⟨M.ils, by simp, fun x hx y hy e => ?_⟩
    simp only [List.map_cons, List.map_nil, List.mem_singleton] at hy
    subst hy e
    obtain ⟨r', hr', e'⟩ := List.mem_map.mp hx
    obtain ⟨j, hj⟩ := List.getElem?_of_mem hr'
    obtain ⟨_, _, _, hm⟩ := (M.arr j r' hj).items
    obtain ⟨_, _, _, hm2⟩ := hr.items
    exact hn _ hm2 _ (hZ _ hm) e'
  · rcases List.mem_append.mp hp with hp | hp
    · intro hm
      have key : ∀ x ∈ [b, sc, wa, wd, hA, lk, L + 1], x ≠ p.1 := by
        intro x hx e
        have hin : ∃ o, (x, o) ∈ news := by
          rw [M.news_]
          simp only [List.mem_cons, List.not_mem_nil, or_false] at hx
          rcases hx with rfl | rfl | rfl | rfl | rfl | rfl | rfl
          · exact ⟨_, List.mem_append.mpr (.inl (.head _))⟩
          · exact ⟨_, List.mem_append.mpr (.inl (.tail _ (.head _)))⟩
          · exact ⟨_, List.mem_append.mpr (.inl (.tail _ (.tail _ (.head _))))⟩
          · exact ⟨_, List.mem_append.mpr (.inl (.tail _ (.tail _ (.tail _ (.head _)))))⟩
          · exact ⟨_, List.mem_append.mpr (.inl (.tail _ (.tail _ (.tail _ (.tail _ (.head _))))))⟩
          · exact ⟨_, List.mem_append.mpr (.inl (.tail _ (.tail _ (.tail _ (.tail _ (.tail _ (.head _)))))))⟩
          · exact ⟨_, List.mem_append.mpr (.inl (.tail _ (.tail _ (.tail _ (.tail _ (.tail _ (.tail _ (.head _))))))))⟩
        obtain ⟨o, ho⟩ := hin
        exact hn p hp _ (hall _ ho) e
      exact key _ hm rfl
    · exact M.off p hp
structure P2 (s0 : Shared) (w : World) (g : Heap) (L l b sc al lk : Addr) (olk : Obj) (items : List Value) (ns : List Int) (n0 n1 : Nat) (tc : Tok) (n : Nat) (tm : Tok) (rest : List (Addr × Obj)) (as : List ArrRec) (s : Shared) : Prop where
  F : Fr g L s.heap (fun y => if y = Str.ofString "all_of" then some (.ref al) else if y = Str.ofString "many" then some (.int (n : Int) tm) else if y = Str.ofString "links" then some (.ref lk) else if y = Str.ofString "box" then some (.ref b) else if y = Str.ofString "script" then some (.ref l) else none)
  N : News g L s.heap ((b, PySem.W.listOf [.ref sc, .int 1 tc].toArray n0) :: (sc, PySem.W.listOf items.toArray n1) :: rest)
  hbs : @Ne Nat b sc
  off : ∀ p ∈ rest, p.1 ≠ b ∧ p.1 ≠ sc
  hints : IntsAre items ns
  len : items.length ≤ 100
  lo : (lk == sysModules) = false
  hlk : (lk, olk) ∈ rest
  dict : Obj.IsDictOf (intKind PySem.Challenge.rw_sj0194_01.row.prog w) olk []
  hn : n = 3 ∨ n = 4
  hal : ∃ c, (al, PySem.W.listOf (as.map fun r => Value.ref r.a).toArray c) ∈ rest
  asl : as.length = n
  arr : ∀ (j : Nat) (r : ArrRec), as[j]? = some r → ArrL w rest r ((j : Int) + 1)
  ils : (as.map fun r => r.il).Nodup
  ali : ∀ r ∈ as, r.il ≠ al
  sm : SameS s0 s
theorem off1_mem {D : Addr} : ∀ {l : List (Addr × Obj)}, LCg.Off1 D l → ∀ p ∈ l, p.1 ≠ D
  | [], _, p, hp => nomatch hp
  | q :: r, h, p, hp => by
    rcases List.mem_cons.mp hp with rfl | hp
    · exact h.1
    · exact off1_mem h.2 p hp
theorem p2_of {s0 : Shared} {w : World} {g h : Heap} {L l b sc wa wd hA lk D : Addr} {od olk oc : Obj} {items ys : List Value} {ns : List Int} {n0 n1 nh n tk : Nat} {tc tm : Tok} {news Z : List (Addr × Obj)} {as : List ArrRec} {s : Shared}
    (M : MJ w L b sc wa wd hA lk (PySem.W.listOf [.ref sc, .int 1 tc].toArray n0) (PySem.W.listOf items.toArray n1) olk oc n ys news od nh as Z)
    (F : Fr g L h (fun y => if y = Str.ofString "all_of" then some (.ref D) else if y = Str.ofString "many" then some (.int (n : Int) tm) else if y = Str.ofString "links" then some (.ref lk) else if y = Str.ofString "box" then some (.ref b) else if y = Str.ofString "script" then some (.ref l) else none))
    (N : News g L h ((D, LCg.lst ys) :: news)) (off : LCg.Off1 D news) (x1 : b ≠ sc) (x5 : b ≠ lk) (y5 : sc ≠ lk) (hI : IntsAre items ns) (hlen : items.length ≤ 100) (lo : (lk == sysModules) = false) (hdict : Obj.IsDictOf (intKind PySem.Challenge.rw_sj0194_01.row.prog w) olk []) (hnn : n = 3 ∨ n = 4) (sm : SameS s0 s) :
    P2 s0 w g L l b sc D lk olk items ns n0 n1 tc n tm ((D, LCg.lst ys) :: (lk, olk) :: Z) as { s with heap := h, toks := tk } := by
  have hoff := off1_mem off
  have hnews := M.news_
  have hmem : ∀ p, p ∈ news ↔ p ∈ [(b, PySem.W.listOf [.ref sc, .int 1 tc].toArray n0), (sc, PySem.W.listOf items.toArray n1), (wa, instObj 320 wd), (wd, od), (hA, PySem.W.listOf ys.toArray nh), (lk, olk), (L + 1, oc)] ∨ p ∈ Z := by
    intro p; rw [hnews]; exact List.mem_append
  have hb : b ≠ D := hoff (b, _) ((hmem _).mpr (.inl (.head _)))
  have hsc : sc ≠ D := hoff (sc, _) ((hmem _).mpr (.inl (.tail _ (.head _))))
  refine ⟨F, fun p hp => ?_, x1, fun p hp => ?_, hI, hlen, lo, .tail _ (.head _), hdict, hnn, ⟨ys.length, ?_⟩, M.len, fun j r hj => (M.arr j r hj).more fun p hp => .tail _ (.tail _ hp), M.ils, fun r hr => ?_, sm⟩
  · rcases List.mem_cons.mp hp with rfl | hp
    · exact N _ (.tail _ ((hmem _).mpr (.inl (.head _))))
    rcases List.mem_cons.mp hp with rfl | hp
    · exact N _ (.tail _ ((hmem _).mpr (.inl (.tail _ (.head _)))))
    rcases List.mem_cons.mp hp with rfl | hp
    · exact N _ (.head _)
    rcases List.mem_cons.mp hp with rfl | hp
    · exact N _ (.tail _ ((hmem _).mpr (.inl (.tail _ (.tail _ (.tail _ (.tail _ (.tail _ (.head _)))))))))
    · exact N _ (.tail _ ((hmem _).mpr (.inr hp)))
  · rcases List.mem_cons.mp hp with rfl | hp
    · exact ⟨Ne.symm hb, Ne.symm hsc⟩
    rcases List.mem_cons.mp hp with rfl | hp
    · exact ⟨Ne.symm x5, Ne.symm y5⟩
    · have := M.off p hp
      simp only [List.mem_cons, List.not_mem_nil, or_false, not_or] at this
      exact ⟨this.1, this.2.1⟩
  · rw [← M.ys_]; exact .head _
  · obtain ⟨j, hj⟩ := List.getElem?_of_mem hr
    obtain ⟨_, _, _, hm⟩ := (M.arr j r hj).items
    exact hoff _ ((hmem _).mpr (.inr hm))
theorem made_turn {w : World} {A : Around} {s : Shared} {g : Heap} {L b sc wa wd hA lk I C D : Addr} {m : Str → Option Value} {bo so olk oc od oI oC : Obj} {i nh : Nat} {ys : List Value} {news Z : List (Addr × Obj)} {as : List ArrRec} {E : Value → Shared → Prop} {mean : ExcName → Option Value} {mg mb : Str → Option Value} {h0 : Heap} {t0 : Nat} {t v : Tok}
    (X : KIn w g) (T : TopAt mean mg mb g) (M : MJ w L b sc wa wd hA lk bo so olk oc i ys news od nh as Z) (F : Fr g L s.heap m) (N : News g L s.heap ((I, oI) :: (C, oC) :: (D, LCg.lst ys) :: news)) (off : LCg.Off3 I C D news) (ap : Apart [b, sc, wa, wd, hA, lk, L + 1])
    (hh : A.handled = none) (hd : A.depth ≤ 400) (hu : A.units ≤ 400) (hi : i ≤ 8) :
    wpAny (model PySem.Challenge.rw_sj0194_01.row.prog w) A (call (.ref 345) [.ref wa, .str (Str.ofString "2") t, .str (Str.ofString "") v])
      (LCg.CompEnd g L m { s with heap := h0, toks := t0 } I oI C oC D (LCg.lst ys) (fun _ => True) fun y news' => ∃ od nh as Z, MJ w L b sc wa wd hA lk bo so olk oc (i + 1) (ys ++ [y]) news' od nh as Z) E s := by
  have hlen : ys.length = i := by rw [M.ys_, List.length_map, M.len]
  have hoff := off.mem
  have hnews := M.news_
  have hap : ∀ x ∈ [b, sc, wa, lk, L + 1], x ≠ wd ∧ x ≠ hA := by
    simp only [Apart, List.nodup_cons, List.mem_cons, List.not_mem_nil, or_false, not_or, not_false_eq_true, List.nodup_nil, and_true] at ap
    obtain ⟨⟨x1, x2, x3, x4, x5, x6⟩, ⟨y2, y3, y4, y5, y6⟩, ⟨z3, z4, z5, z6⟩, ⟨w4, w5, w6⟩, ⟨v5, v6⟩, u6⟩ := ap
    intro x hx
    simp only [List.mem_cons, List.not_mem_nil, or_false] at hx
    rcases hx with rfl | rfl | rfl | rfl | rfl
    · exact ⟨x3, x4⟩
    · exact ⟨y3, y4⟩
    · exact ⟨z3, z4⟩
    · exact ⟨Ne.symm w5, Ne.symm v5⟩
    · exact ⟨Ne.symm w6, Ne.symm v6⟩
  have hwh : @Ne Nat wd hA := by
    simp only [Apart, List.nodup_cons, List.mem_cons, List.not_mem_nil, or_false, not_or, not_false_eq_true, List.nodup_nil, and_true] at ap
    exact ap.2.2.2.1.1
  have hin : ∀ p, p ∈ [(b, bo), (sc, so), (wa, instObj 320 wd), (wd, od), (hA, PySem.W.listOf ys.toArray nh), (lk, olk), (L + 1, oc)] ++ Z → p ∈ news := fun p hp => by rw [hnews]; exact hp
  have i1 : (b, bo) ∈ news := hin _ (List.mem_append.mpr (.inl (.head _)))
  have i2 : (sc, so) ∈ news := hin _ (List.mem_append.mpr (.inl (.tail _ (.head _))))
  have i3 : (wa, instObj 320 wd) ∈ news := hin _ (List.mem_append.mpr (.inl (.tail _ (.tail _ (.head _)))))
  have i4 : (wd, od) ∈ news := hin _ (List.mem_append.mpr (.inl (.tail _ (.tail _ (.tail _ (.head _))))))
  have i5 : (hA, PySem.W.listOf ys.toArray nh) ∈ news := hin _ (List.mem_append.mpr (.inl (.tail _ (.tail _ (.tail _ (.tail _ (.head _)))))))
  have i6 : (lk, olk) ∈ news := hin _ (List.mem_append.mpr (.inl (.tail _ (.tail _ (.tail _ (.tail _ (.tail _ (.head _))))))))
  have i7 : (L + 1, oc) ∈ news := hin _ (List.mem_append.mpr (.inl (.tail _ (.tail _ (.tail _ (.tail _ (.tail _ (.tail _ (.head _)))))))))
  have iZ : ∀ p ∈ Z, p ∈ news := fun p hp => hin _ (List.mem_append.mpr (.inr hp))
  have up : ∀ {p}, p ∈ news → p ∈ (I, oI) :: (C, oC) :: (D, LCg.lst ys) :: news := fun h => .tail _ (.tail _ (.tail _ h))
  refine use_made (rest := (I, oI) :: (C, oC) :: (D, LCg.lst ys) :: ([(b, bo), (sc, so), (wa, instObj 320 wd), (lk, olk), (L + 1, oc)] ++ Z)) X T F N hh hd hu (up i3) (up i4) (up i5) M.W (hap wa (by simp)).1 (hap wa (by simp)).2 hwh (by omega) (by omega) (by omega) ?_ ?_
  · intro p hp
    rcases List.mem_cons.mp hp with rfl | hp
    · exact ⟨.head _, Ne.symm (hoff _ i4).1, Ne.symm (hoff _ i5).1⟩
    rcases List.mem_cons.mp hp with rfl | hp
    · exact ⟨.tail _ (.head _), Ne.symm (hoff _ i4).2.1, Ne.symm (hoff _ i5).2.1⟩
    rcases List.mem_cons.mp hp with rfl | hp
    · exact ⟨.tail _ (.tail _ (.head _)), Ne.symm (hoff _ i4).2.2, Ne.symm (hoff _ i5).2.2⟩
    rcases List.mem_append.mp hp with hp | hp
    · have h9 : p.1 ∈ [b, sc, wa, lk, L + 1] := by
        have := List.mem_map_of_mem (f := (·.1)) hp
        exact this
      refine ⟨up ?_, hap _ h9⟩
      simp only [List.mem_cons, List.not_mem_nil, or_false] at hp
      rcases hp with rfl | rfl | rfl | rfl | rfl <;> assumption
    · have := M.off p hp
      simp only [List.mem_cons, List.not_mem_nil, or_false, not_or] at this
      exact ⟨up (iZ p hp), this.2.2.2.1, this.2.2.2.2.1⟩
  · rintro h' tk n' od' r nx F' N' W' hr hn
    refine LCg.CompEnd.intro F' N' _ (fun p hp => ?_) (LCg.Off3.of fun p hp => ?_) trivial ⟨od', n', as ++ [r], nx ++ Z, M.next W' hr hn fun q hq => up hq⟩
    · rcases List.mem_cons.mp hp with rfl | hp
      · exact .tail _ (.tail _ (List.mem_append.mpr (.inr (.head _))))
      rcases List.mem_cons.mp hp with rfl | hp
      · exact .tail _ (.tail _ (List.mem_append.mpr (.inr (.tail _ (.head _)))))
      rcases List.mem_cons.mp hp with rfl | hp
      · exact .tail _ (.tail _ (List.mem_append.mpr (.inr (.tail _ (.tail _ (.head _))))))
      rcases List.mem_append.mp hp with hp | hp
      · have sub : ∀ q ∈ [(b, bo), (sc, so), (wa, instObj 320 wd), (lk, olk), (L + 1, oc)], q ∈ (wd, od') :: (hA, PySem.W.listOf (ys ++ [Value.ref r.a]).toArray n') :: (nx ++ ((I, oI) :: (C, oC) :: (D, LCg.lst ys) :: ([(b, bo), (sc, so), (wa, instObj 320 wd), (lk, olk), (L + 1, oc)] ++ Z))) := fun q hq =>
          .tail _ (.tail _ (List.mem_append.mpr (.inr (.tail _ (.tail _ (.tail _ (List.mem_append.mpr (.inl hq))))))))
        simp only [List.mem_cons, List.not_mem_nil, or_false] at hp
        rcases hp with rfl | rfl | rfl | rfl | rfl | rfl | rfl
        · exact sub _ (.head _)
        · exact sub _ (.tail _ (.head _))
        · exact sub _ (.tail _ (.tail _ (.head _)))
        · exact .head _
        · exact .tail _ (.head _)
        · exact sub _ (.tail _ (.tail _ (.tail _ (.head _))))
        · exact sub _ (.tail _ (.tail _ (.tail _ (.tail _ (.head _)))))
      · rcases List.mem_append.mp hp with hp | hp
        · exact .tail _ (.tail _ (List.mem_append.mpr (.inl hp)))
        · exact .tail _ (.tail _ (List.mem_append.mpr (.inr (.tail _ (.tail _ (.tail _ (List.mem_append.mpr (.inr hp))))))))
    · rcases List.mem_append.mp hp with hp | hp
      · simp only [List.mem_cons, List.not_mem_nil, or_false] at hp
        rcases hp with rfl | rfl | rfl | rfl | rfl | rfl | rfl
        · exact hoff _ i1
        · exact hoff _ i2
        · exact hoff _ i3
        · exact hoff (wd, od) i4
        · exact hoff (hA, PySem.W.listOf ys.toArray nh) i5
        · exact hoff _ i6
        · exact hoff _ i7
      · rcases List.mem_append.mp hp with hp | hp
        · exact ⟨Ne.symm (hn p hp _ (.head _)), Ne.symm (hn p hp _ (.tail _ (.head _))), Ne.symm (hn p hp _ (.tail _ (.tail _ (.head _))))⟩
        · exact hoff _ (iZ p hp)
section
local macro_rules | `(tactic| k_all) => `(tactic| assumption)
theorem law_s2 {s0 : Shared} {w : World} {s : Shared} {g : Heap} {fa L l b sc wa wd hA lk : Addr} {cv : Value} {od olk oc : Obj} {items : List Value} {ns : List Int} {n0 n1 nh n : Nat} {tc tm : Tok} {mean : ExcName → Option Value} {mg mb : Str → Option Value}
    (X : (Mine.hd.heap_1 w.params).In g) (T : Top Mine.view (looseW Mine.view [Str.ofString "SnobolError"]) mean mg mb g)
    (P : P1 s0 w g L l b sc wa wd hA lk od olk oc items ns n0 n1 nh tc n tm s) :
    wpAny (model PySem.Challenge.rw_sj0194_01.row.prog w) ((AA 310 200).deeper (lawEnv L fa cv)) (exec (lawS 2) (lawEnv L fa cv)) (NextP fun s' => ∃ al rest as, P2 s0 w g L l b sc al lk olk items ns n0 n1 tc n tm rest as s') (fun _ _ => False) s := by
  dsimp only [lawEnv, lawS, lawBody, lawScope, lawP, mkLaw, gz, gs]
  revert T X; k_fill; intro X T
  k_with_none
  w_top off
  k_with "call ref" => refine Mine.stop ?_
  k_with "CompSrc" => refine Mine.stop ?_
  k_with "exec Assign cons ListComp" => (with_unfolding_all refine LCg.Assign_ListComp_U (F₀ := by k_asm) (by rfl) (by with_unfolding_all rfl) (by with_unfolding_all rfl) (by decide) (by rfl) (by decide) (by rfl) (by rfl) (by rfl) ?_)
  k_whole
  (try k_fold)
  obtain ⟨F', N', ap, W, hoc, hI, hlen, lo, hdict, hnn, sm⟩ := P
  have hn8 : n ≤ 8 := by omega
  k_steps
  delta Mine.Stop
  rename IsRange _ _ _ _ _ _ _ _ => R1
  rename Fr _ _ _ _ => F1
  rename News _ _ _ _ => N1

  refine LCg.CompSrc.range (n := n) rfl F1 N1 R1 (range_small n hn8) (by rw [rangeSize_nat]; simp) (by rw [PySem.sizeLine_eq]; omega) ?_
  intro g'
  refine comp_rest_ind (fun i ys news => ∃ od nh as Z, MJ w L b sc wa wd hA lk (PySem.W.listOf [.ref sc, .int 1 tc].toArray n0) (PySem.W.listOf items.toArray n1) olk oc i ys news od nh as Z) n ?step ?fin n 0 [] _ (Nat.zero_add n) ?start
  case start =>
    exact ⟨od, nh, [], [], ⟨rfl, W, rfl, rfl, fun j r h => by simp at h, by simp, fun p hp => nomatch hp⟩⟩
  case fin =>
    rintro ys news ⟨od, nh, as, Z, M⟩
    simp only [Apart, List.nodup_cons, List.mem_cons, List.not_mem_nil, or_false, not_or, not_false_eq_true, List.nodup_nil, and_true] at ap
    obtain ⟨⟨x1, x2, x3, x4, x5, x6⟩, ⟨y2, y3, y4, y5, y6⟩, ⟨z3, z4, z5, z6⟩, ⟨w4, w5, w6⟩, ⟨v5, v6⟩, u6⟩ := ap
    intro D h tk F N off
    exact nextP ⟨D, _, as, p2_of M F N off x1 x5 y5 hI hlen lo hdict hnn sm⟩
  case step =>
    clear F1 N1 R1
    rintro i ys news hin ⟨od, nh, as, Z, M⟩ v I oI C oC D m₂ h tk E' ⟨tv, rfl⟩ hCns hx F' N' off ne
    have hoff := off.mem
    have hnews := M.news_
    obtain ⟨ne1, ne2, ne3⟩ := ne
    subst hnews
    simp only [List.cons_append, List.nil_append] at N' off hoff
    k_steps
    change wpAny _ _ _ _ _ _
    rename Fr _ _ _ _ => F1
    rename News _ _ _ _ => N1
    exact made_turn X T M F1 N1 off ap rfl (Nat.le_of_ble_eq_true rfl) (Nat.le_of_ble_eq_true rfl) (Nat.le_trans (Nat.le_of_lt hin) hn8)
end
end Mine
end
section
open PySem PySem.W PyProof.Rows PySem.Calls PySem.Spec
namespace Mine
structure P3 (s0 : Shared) (w : World) (g : Heap) (L l b sc al lk fd ul : Addr) (olk of : Obj) (items us : List Value) (ns : List Int) (n0 n1 n2 : Nat) (tc : Tok) (n : Nat) (tm : Tok) (rest : List (Addr × Obj)) (as : List ArrRec) (s : Shared) : Prop where
  F : Fr g L s.heap (fun y => if y = Str.ofString "far" then some (.ref fd) else if y = Str.ofString "used" then some (.ref ul) else if y = Str.ofString "all_of" then some (.ref al) else if y = Str.ofString "many" then some (.int (n : Int) tm) else if y = Str.ofString "links" then some (.ref lk) else if y = Str.ofString "box" then some (.ref b) else if y = Str.ofString "script" then some (.ref l) else none)
  N : News g L s.heap ((fd, of) :: (ul, PySem.W.listOf us.toArray n2) :: (b, PySem.W.listOf [.ref sc, .int 1 tc].toArray n0) :: (sc, PySem.W.listOf items.toArray n1) :: rest)
  hbs : @Ne Nat b sc
  off : ∀ p ∈ rest, p.1 ≠ b ∧ p.1 ≠ sc
  nb : @Ne Nat fd ul ∧ @Ne Nat fd b ∧ @Ne Nat fd sc ∧ @Ne Nat ul b ∧ @Ne Nat ul sc
  noff : ∀ p ∈ rest, p.1 ≠ fd ∧ p.1 ≠ ul
  hints : IntsAre items ns
  len : items.length ≤ 100
  lo : (lk == sysModules) = false
  hlk : (lk, olk) ∈ rest
  dict : Obj.IsDictOf (intKind PySem.Challenge.rw_sj0194_01.row.prog w) olk []
  hn : n = 3 ∨ n = 4
  hal : ∃ c, (al, PySem.W.listOf (as.map fun r => Value.ref r.a).toArray c) ∈ rest
  asl : as.length = n
  arr : ∀ (j : Nat) (r : ArrRec), as[j]? = some r → ArrL w rest r ((j : Int) + 1)
  ils : (as.map fun r => r.il).Nodup
  ali : ∀ r ∈ as, r.il ≠ al
  lof : (fd == sysModules) = false
  dictf : Obj.IsDictOf (intKind PySem.Challenge.rw_sj0194_01.row.prog w) of []
  used : IntsAre us (List.replicate n 0)
  sm : SameS s0 s
theorem allLt_mem {d : Nat} : ∀ {l : List (Addr × Obj)}, AllLt d l → ∀ p ∈ l, @LT.lt Nat _ p.1 d
  | [], _, p, hp => nomatch hp
  | q :: r, h, p, hp => by
    rcases List.mem_cons.mp hp with rfl | hp
    · exact h.1
    · exact allLt_mem h.2 p hp
section
local macro_rules | `(tactic| k_all) => `(tactic| assumption)
theorem law_s3 {s0 : Shared} {w : World} {s : Shared} {g : Heap} {fa L l b sc al lk : Addr} {cv : Value} {olk : Obj} {items : List Value} {ns : List Int} {n0 n1 n : Nat} {tc tm : Tok} {rest : List (Addr × Obj)} {as : List ArrRec} {mean : ExcName → Option Value} {mg mb : Str → Option Value}
    (X : (Mine.hd.heap_1 w.params).In g) (T : Top Mine.view (looseW Mine.view [Str.ofString "SnobolError"]) mean mg mb g)
    (P : P2 s0 w g L l b sc al lk olk items ns n0 n1 tc n tm rest as s) :
    wpAny (model PySem.Challenge.rw_sj0194_01.row.prog w) ((AA 310 200).deeper (lawEnv L fa cv)) (exec (lawS 3) (lawEnv L fa cv)) (NextP fun s' => ∃ fd ul of us n2, P3 s0 w g L l b sc al lk fd ul olk of items us ns n0 n1 n2 tc n tm rest as s') (fun _ _ => False) s := by
  dsimp only [lawEnv, lawS, lawBody, lawScope, lawP, mkLaw, gz, gs]
  revert T X; k_fill; intro X T
  k_with_none
  w_top off
  k_whole
  (try k_fold)
  obtain ⟨F', N', hbs, off, hI, hlen, lo, hlk, hdict, hnn, hal, asl, arr, ils, ali, sm⟩ := P
  rcases hnn with rfl | rfl
  all_goals k_steps
  all_goals rename Fr _ _ _ _ => F1
  all_goals rename News _ _ _ _ => N1
  all_goals rename IntsAre (List.flatten _) _ => i1
  all_goals rename _ ∧ _ ∧ AllLt _ _ => l1
  all_goals rename _ ∧ _ ∧ _ ∧ _ ∧ AllLt _ _ => l2
  all_goals refine nextP ⟨_, _, _, _, _, ⟨F1, news_sub N1 (fun p hp => by
      rcases List.mem_cons.mp hp with rfl | hp
      · k_mem
      rcases List.mem_cons.mp hp with rfl | hp
      · k_mem
      rcases List.mem_cons.mp hp with rfl | hp
      · k_mem
      rcases List.mem_cons.mp hp with rfl | hp
      · k_mem
      exact .tail _ (.tail _ (.tail _ (.tail _ (.tail _ (.tail _ hp)))))), hbs, off, ⟨by omega, by omega, by omega, by omega, by omega⟩, ?_, hI, hlen, lo, hlk, hdict, by omega, hal, asl, arr, ils, ali, by assumption, by assumption, i1, sm⟩⟩
  all_goals exact fun p hp => ⟨Nat.ne_of_lt (allLt_mem l1.2.2 p hp), Nat.ne_of_lt (allLt_mem l2.2.2.2.2 p hp)⟩
end
end Mine
end
section
open PySem PySem.W PyProof.Rows PySem.Calls PySem.Spec PyProof.V
namespace Mine
def f0 (a b : Nat) : Int := if a = b then 0 else 99
abbrev baseM (l b al lk fd ul : Addr) (n : Nat) (tm : Tok) : Str → Option Value := fun y => if y = Str.ofString "far" then some (.ref fd) else if y = Str.ofString "used" then some (.ref ul) else if y = Str.ofString "all_of" then some (.ref al) else if y = Str.ofString "many" then some (.int (n : Int) tm) else if y = Str.ofString "links" then some (.ref lk) else if y = Str.ofString "box" then some (.ref b) else if y = Str.ofString "script" then some (.ref l) else none
inductive FJ1 (prog : Program) (w : World) (n : Nat) (fd : Addr) (base : Str → Option Value) (K0 : List (Addr × Obj)) (i : Nat) (m : Str → Option Value) (nx : List (Addr × Obj)) : Prop
  | mk (vo vt D) (e1 : m = (fun y => if y = Str.ofString "other" then vt else if y = Str.ofString "one" then vo else base y)) (e2 : TupTab (intKind prog w) PyData.int nx fd D) (e3 : D.length ≤ i * n) (e4 : (∀ a b : Nat, a < i → b < n → lookup (key2 a b) D = some (.int (f0 a b)))) (e5 : ∀ q ∈ K0, q ∈ nx) : FJ1 prog w n fd base K0 i m nx
inductive FJ2 (prog : Program) (w : World) (n i : Nat) (ti : Tok) (fd : Addr) (base : Str → Option Value) (K0 : List (Addr × Obj)) (j : Nat) (m : Str → Option Value) (nx : List (Addr × Obj)) : Prop
  | mk (vt D) (e1 : m = (fun y => if y = Str.ofString "other" then vt else if y = Str.ofString "one" then some (.int (i : Int) ti) else base y)) (e2 : TupTab (intKind prog w) PyData.int nx fd D) (e3 : D.length ≤ i * n + j) (e4 : (∀ a b : Nat, a < i → b < n → lookup (key2 a b) D = some (.int (f0 a b)))) (e5 : (∀ b : Nat, b < j → lookup (key2 i b) D = some (.int (f0 i b)))) (e6 : ∀ q ∈ K0, q ∈ nx) : FJ2 prog w n i ti fd base K0 j m nx
theorem base_one {l b al lk fd ul : Addr} {n : Nat} {tm : Tok} : baseM l b al lk fd ul n tm (Str.ofString "one") = none := by with_unfolding_all rfl
theorem base_other {l b al lk fd ul : Addr} {n : Nat} {tm : Tok} : baseM l b al lk fd ul n tm (Str.ofString "other") = none := by with_unfolding_all rfl
theorem base_start {base : Str → Option Value} (h1 : base (Str.ofString "one") = none) (h2 : base (Str.ofString "other") = none) : base = fun y => if y = Str.ofString "other" then none else if y = Str.ofString "one" then none else base y := by
  funext y
  by_cases h : y = Str.ofString "other"
  · subst h; rw [if_pos rfl]; exact h2
  · rw [if_neg h]
    by_cases h' : y = Str.ofString "one"
    · subst h'; rw [if_pos rfl]; exact h1
    · rw [if_neg h']
theorem swap_one {base : Str → Option Value} {vt vo : Option Value} {x : Option Value} : (fun y => if y = Str.ofString "one" then vo else if y = Str.ofString "other" then vt else if y = Str.ofString "one" then x else base y) = fun y => if y = Str.ofString "other" then vt else if y = Str.ofString "one" then vo else base y := by
  funext y
  by_cases h : y = Str.ofString "one"
  · subst h
    rw [if_pos rfl, if_neg (by decide), if_pos rfl]
  · simp only [if_neg h]
theorem swap_other {base : Str → Option Value} {vt vo : Option Value} {x : Option Value} : (fun y => if y = Str.ofString "other" then x else (fun y => if y = Str.ofString "other" then vt else if y = Str.ofString "one" then vo else base y) y) = fun y => if y = Str.ofString "other" then x else if y = Str.ofString "one" then vo else base y := by
  funext y
  by_cases h : y = Str.ofString "other" <;> simp only [h, if_true, if_false]
theorem fj2_end {w : World} {g h4 : Heap} {L fd : Addr} {n i j : Nat} {x : Int} {K0 own own2 nx2 nw4 : List (Addr × Obj)} {D2 : List (PyData × PyData)} {C : Prop}
    (N4 : News g L h4 nw4) (T4 : TupTab (intKind PySem.Challenge.rw_sj0194_01.row.prog w) PyData.int nw4 fd (putD (key2 i j) (.int x) D2)) (hij : f0 i j = x)
    (hs4 : ∀ p ∈ nx2 ++ own2, p.1 ≠ fd → p ∈ nw4) (hK0 : ∀ p ∈ K0, p.1 ≠ fd) (hk2 : ∀ q ∈ K0 ++ own, q ∈ nx2) (hne9 : ∀ q ∈ nx2 ++ own2, q.2.cls = .type "range_iterator" → q.1 ≠ fd) (hcl : ∀ q ∈ own, q.2.cls = .type "range_iterator") (hcl2 : ∀ q ∈ own2, q.2.cls = .type "range_iterator")
    (hsep2 : ∀ p ∈ nx2, ∀ q ∈ own2, p.1 ≠ q.1) (hl2 : D2.length ≤ i * n + j) (hD2 : ∀ a b : Nat, a < i → b < n → lookup (key2 a b) D2 = some (.int (f0 a b))) (hE2 : ∀ b : Nat, b < j → lookup (key2 i b) D2 = some (.int (f0 i b)))
    (k : ∀ nx3, (∀ p ∈ nx3, p ∈ nw4) → (∀ p ∈ nx3, ∀ q ∈ own2, p.1 ≠ q.1) → (∀ q ∈ own2, q ∈ nw4) → ∀ D4, TupTab (intKind PySem.Challenge.rw_sj0194_01.row.prog w) PyData.int nx3 fd D4 → D4.length ≤ i * n + (j + 1) → (∀ a b : Nat, a < i → b < n → lookup (key2 a b) D4 = some (.int (f0 a b))) →
      ((∀ b : Nat, b < j + 1 → lookup (key2 i b) D4 = some (.int (f0 i b))) ∧ ∀ q ∈ K0 ++ own, q ∈ nx3) → C) : C := by
  have ho4 : ∀ q ∈ own2, q ∈ nw4 := fun q hq => hs4 q (List.mem_append.mpr (.inr hq)) (hne9 q (List.mem_append.mpr (.inr hq)) (hcl2 q hq))
  have hkeep : ∀ q ∈ K0 ++ own, q ∈ nw4 := fun q hq => hs4 q (List.mem_append.mpr (.inl (hk2 q hq))) (by
    rcases List.mem_append.mp hq with h | h
    · exact hK0 q h
    · exact hne9 q (List.mem_append.mpr (.inl (hk2 q hq))) (hcl q h))
  obtain ⟨nx3, a1, a2, a3, a4⟩ := far_turn (keep := K0 ++ own) N4 T4 ho4 hcl2 hkeep (fun p hp => hsep2 p (hk2 p hp))
  refine k nx3 a1 a2 ho4 _ a3 (Nat.le_trans (put_len _ _ _) (Nat.succ_le_succ hl2)) (fun a b' ha hb' => (put_other (.inl (Nat.ne_of_lt ha)) _ _).trans (hD2 a b' ha hb')) ⟨fun b' hb' => ?_, a4⟩
  rcases Nat.lt_succ_iff_lt_or_eq.mp hb' with hb' | rfl
  · exact (put_other (.inr (Nat.ne_of_lt hb')) _ _).trans (hE2 b' hb')
  · rw [hij]; exact put_same _ _ _ _
structure P4 (s0 : Shared) (w : World) (g : Heap) (L l b sc al lk fd ul : Addr) (of : Obj) (items us : List Value) (n0 n1 n2 : Nat) (tc : Tok) (n : Nat) (tm : Tok) (rest : List (Addr × Obj)) (s : Shared) : Prop where
  ex : ∃ vo vt D nx, Fr g L s.heap (fun y => if y = Str.ofString "other" then vt else if y = Str.ofString "one" then vo else baseM l b al lk fd ul n tm y) ∧ News g L s.heap nx ∧
    TupTab (intKind PySem.Challenge.rw_sj0194_01.row.prog w) PyData.int nx fd D ∧ D.length ≤ 16 ∧ (∀ a b : Nat, a < n → b < n → lookup (key2 a b) D = some (.int (f0 a b))) ∧
    ∀ q ∈ (ul, PySem.W.listOf us.toArray n2) :: (b, PySem.W.listOf [.ref sc, .int 1 tc].toArray n0) :: (sc, PySem.W.listOf items.toArray n1) :: rest, q ∈ nx
  sm : SameS s0 s
section
local macro_rules | `(tactic| k_all) => `(tactic| assumption)
theorem law_s4 {s0 : Shared} {w : World} {s : Shared} {g : Heap} {fa L l b sc al lk fd ul : Addr} {cv : Value} {olk of : Obj} {items us : List Value} {ns : List Int} {n0 n1 n2 n : Nat} {tc tm : Tok} {rest : List (Addr × Obj)} {as : List ArrRec} {mean : ExcName → Option Value} {mg mb : Str → Option Value}
    (X : (Mine.hd.heap_1 w.params).In g) (T : Top Mine.view (looseW Mine.view [Str.ofString "SnobolError"]) mean mg mb g)
    (P : P3 s0 w g L l b sc al lk fd ul olk of items us ns n0 n1 n2 tc n tm rest as s) :
    wpAny (model PySem.Challenge.rw_sj0194_01.row.prog w) ((AA 310 200).deeper (lawEnv L fa cv)) (exec (lawS 4) (lawEnv L fa cv)) (NextP (P4 s0 w g L l b sc al lk fd ul of items us n0 n1 n2 tc n tm rest)) (fun _ _ => False) s := by
  dsimp only [lawEnv, lawS, lawBody, lawScope, lawP, mkLaw, gz, gs]
  revert T X; k_fill; intro X T
  k_with_none
  w_top off
  k_with "exec For Name Call cons nil" => refine Mine.stop ?_
  k_with "pyIter ref" => refine Mine.stop ?_
  k_with "setItem ref ref" => refine Mine.stop ?_
  obtain ⟨F', N', hbs, off, nb, noff, hI, hlen, lo, hlk, hdict, hnn, hal, asl, arr, ils, ali, lof, hdf, hus, sm⟩ := P
  have hn4 : n ≤ 4 := by omega
  have hK0 : ∀ p ∈ (ul, PySem.W.listOf us.toArray n2) :: (b, PySem.W.listOf [.ref sc, .int 1 tc].toArray n0) :: (sc, PySem.W.listOf items.toArray n1) :: rest, p.1 ≠ fd := by
    intro p hp
    rcases List.mem_cons.mp hp with rfl | hp
    · exact Ne.symm nb.1
    rcases List.mem_cons.mp hp with rfl | hp
    · exact Ne.symm nb.2.1
    rcases List.mem_cons.mp hp with rfl | hp
    · exact Ne.symm nb.2.2.1
    · exact (noff p hp).1
  have T0 : TupTab (intKind PySem.Challenge.rw_sj0194_01.row.prog w) PyData.int ((fd, of) :: (ul, PySem.W.listOf us.toArray n2) :: (b, PySem.W.listOf [.ref sc, .int 1 tc].toArray n0) :: (sc, PySem.W.listOf items.toArray n1) :: rest) fd [] := TupTab.ofEmpty (.head _) lof hdf
  generalize hKe : (ul, PySem.W.listOf us.toArray n2) :: (b, PySem.W.listOf [.ref sc, .int 1 tc].toArray n0) :: (sc, PySem.W.listOf items.toArray n1) :: rest = K0 at N' hK0 T0
  clear nb noff off hbs hlk hal arr ils ali hdict lo hI hlen hus asl
  k_whole
  (try k_fold)
  change wpAny _ _ _ _ _ _
  with_unfolding_all refine' For_invVF (by k_asm) ?k1 ?k2 ?_ ?k3 PassesOwn.never
  case k1 => exact rfl
  case k2 => exact rfl
  case k3 => intro _; rfl
  k_steps
  change wpAny _ _ _ _ _ _
  rename IsRange _ _ _ _ _ _ _ _ => R9
  rename Fr _ _ _ _ => F0
  rename News _ _ _ _ => N0
  refine iter_range (n := n) (news := (fd, of) :: K0) (FJ1 PySem.Challenge.rw_sj0194_01.row.prog w n fd (baseM l b al lk fd ul n tm) K0) rfl R9 (Nat.le_trans hn4 (by decide)) F0 N0 ?hj ?turn ?done
  case hj =>
    exact ⟨none, none, [], base_start base_one base_other, T0, Nat.zero_le _, fun a b h => absurd h (Nat.not_lt_zero _), fun q hq => .tail _ hq⟩
  case done =>
    rintro m₁ nx h1 tk1 ⟨vo, vt, D1, rfl, T1, hl1, hD1, hk1⟩ F' N'
    have hD16 : D1.length ≤ 16 := Nat.le_trans hl1 (Nat.mul_le_mul hn4 hn4)
    exact nextP ⟨⟨vo, vt, D1, nx, F', N', T1, hD16, hD1, by rw [hKe]; exact hk1⟩, sm⟩
  case turn =>
    rintro i ti m₁ nx h1 tk1 own hin ⟨vo, vt, D1, rfl, T1, hl1, hD1, hk1⟩ hsep hcl F' N'
    have F2 : Fr g L h1 (fun y => if y = Str.ofString "other" then vt else if y = Str.ofString "one" then some (.int (i : Int) ti) else baseM l b al lk fd ul n tm y) := by
      rw [swap_one] at F'; exact F'
    clear F' F0 N0 R9
    k_steps
    change wpAny _ _ _ _ _ _
    with_unfolding_all refine' For_invVF (by k_asm) ?k1 ?k2 ?_ ?k3 PassesOwn.never
    case k1 => exact rfl
    case k2 => exact rfl
    case k3 => intro _; rfl
    k_steps
    rename IsRange _ _ _ _ _ _ _ _ => R1
    rename Fr _ _ _ _ => F1
    rename News _ _ _ _ => N1
    change wpAny _ _ _ _ _ _
    refine iter_range (n := n) (news := nx ++ own) (FJ2 PySem.Challenge.rw_sj0194_01.row.prog w n i ti fd (baseM l b al lk fd ul n tm) (K0 ++ own)) rfl R1 (Nat.le_trans hn4 (by decide)) F1 N1 ?hj ?turn ?done
    case hj =>
      exact ⟨vt, D1, rfl, tab_sub T1 fun p hp => List.mem_append.mpr (.inl hp), Nat.le_add_right_of_le hl1, hD1, fun b h => absurd h (Nat.not_lt_zero _), fun q hq => (List.mem_append.mp hq).elim (fun hq => List.mem_append.mpr (.inl (hk1 q hq))) fun hq => List.mem_append.mpr (.inr hq)⟩
    case done =>
      rintro m₁ nx2 h2 tk2 ⟨vt2, D2, rfl, T2, hl2, hD2, hE2, hk2⟩ F' N'
      k_steps
      obtain ⟨nx3, a1, a2, a3, a4⟩ := far_turn (keep := K0) N' T2 (fun q hq => hk2 q (List.mem_append.mpr (.inr hq))) hcl (fun q hq => hk2 q (List.mem_append.mpr (.inl hq))) (fun p hp q hq => hsep p (hk1 p hp) q hq)
      refine ⟨h2, tk2, _, nx3, nx2, rfl, F', N', a1, fun q hq => hk2 q (List.mem_append.mpr (.inr hq)), a2, _, _, D2, rfl, a3, by rw [Nat.succ_mul]; exact hl2, fun a b' ha hb' => ?_, a4⟩
      rcases Nat.lt_succ_iff_lt_or_eq.mp ha with ha | rfl
      · exact hD2 a b' ha hb'
      · exact hE2 b' hb'
    case turn =>
      rintro j tj m₂ nx2 h2 tk2 own2 hjn ⟨vt2, D2, rfl, T2, hl2, hD2, hE2, hk2⟩ hsep2 hcl2 F' N'
      have hne9 := tab_ne N' T2 fun p hp => List.mem_append.mpr (.inl hp)
      have hl3 : D2.length ≤ sizeLine := by
        have := Nat.mul_le_mul (Nat.le_of_lt hin) (Nat.le_refl n)
        have := Nat.mul_le_mul hn4 hn4
        rw [PySem.sizeLine_eq]
        omega
      k_steps
      all_goals change wpAny _ _ _ _ _ _
      all_goals rename Fr _ _ _ _ => F3
      all_goals rename News _ _ _ _ => N3
      all_goals have key : TupKeyObj (intKind PySem.Challenge.rw_sj0194_01.row.prog w) [(i : Int), (j : Int)] (tupOf [.int (i : Int) ti, .int (j : Int) tj]) := TupKeyObj.made (.cons (by simp [intKind, Value.isInt]) (.cons (by simp [intKind, Value.isInt]) .nil))
      · have hij : f0 i j = 0 := by unfold f0; rw [if_pos (by omega)]
        refine setItem_tupTab (knd := intKind _ w) same_int (Nat.le_of_ble_eq_true rfl) (Flat.int _ _) F3 N3 (tab_sub T2 fun p hp => .tail _ (List.mem_append.mpr (.inl hp))) (.head _) key ?_ hl3
        rintro h4 nw4 F4 N4 T4 hk4 hs4
        k_steps
        refine fj2_end N4 T4 hij (fun p hp => hs4 p (.tail _ hp)) hK0 hk2 hne9 hcl hcl2 hsep2 hl2 hD2 hE2 ?_
        intro nx3 a1 a2 a3 D4 a4 b1 b2 b3
        exact ⟨h4, _, _, nx3, nw4, rfl, F4, N4, a1, a3, a2, some (.int (j : Int) tj), D4, swap_other, a4, b1, b2, b3.1, b3.2⟩
      · have hij : f0 i j = 99 := by unfold f0; rw [if_neg (by omega)]
        refine setItem_tupTab (knd := intKind _ w) same_int (Nat.le_of_ble_eq_true rfl) (Flat.int _ _) F3 N3 (tab_sub T2 fun p hp => .tail _ (List.mem_append.mpr (.inl hp))) (.head _) key ?_ hl3
        rintro h4 nw4 F4 N4 T4 hk4 hs4
        k_steps
        refine fj2_end N4 T4 hij (fun p hp => hs4 p (.tail _ hp)) hK0 hk2 hne9 hcl hcl2 hsep2 hl2 hD2 hE2 ?_
        intro nx3 a1 a2 a3 D4 a4 b1 b2 b3
        exact ⟨h4, _, _, nx3, nw4, rfl, F4, N4, a1, a3, a2, some (.int (j : Int) tj), D4, swap_other, a4, b1, b2, b3.1, b3.2⟩
end
end Mine
end
section
open PySem PySem.W PyProof.Rows PySem.Calls PySem.Spec PyProof.V
namespace Mine
abbrev prog0 : Program := PySem.Challenge.rw_sj0194_01.row.prog
structure ArrF (w : World) (Z : List (Addr × Obj)) (r : ArrRec) (k : Int) : Prop where
  inst : (r.a, instObj 208 r.d) ∈ Z
  dict : ∃ oa, (r.d, oa) ∈ Z ∧ ArrDict w oa k r.bl r.il
  bnd : ∃ nb, (r.bl, PySem.W.listOf #[.ref r.tp] nb) ∈ Z
  tup : ∃ t1 t2, (r.tp, tupOf [.int 1 t1, .int 2 t2]) ∈ Z
inductive SlotL (w : World) (Z : List (Addr × Obj)) (r : ArrRec) : Value → Prop
  | arr : SlotL w Z r (.ref r.a)
  | name {n dn : Addr} {od : Obj} : (n, instObj 117 dn) ∈ Z → (dn, od) ∈ Z → NameDict w od r.a 0 → SlotL w Z r (.ref n)
  | pat {p dp q q1 q2 n dn : Addr} {od : Obj} {tk t2 t3 t4 : Tok} : (p, instObj 54 dp) ∈ Z → (dp, dictOf [ent w "node" tk (.ref q)] 1) ∈ Z → (q, tupOf [.str (Str.ofString "cat") t2, .ref q1, .ref q2]) ∈ Z → (q1, tupOf [.str (Str.ofString "cursor") t3, .ref n]) ∈ Z → (q2, tupOf [.str (Str.ofString "arb") t4]) ∈ Z →
      (n, instObj 117 dn) ∈ Z → (dn, od) ∈ Z → NameDict w od r.a 0 → SlotL w Z r (.ref p)
def Emp (v : Value) : Prop := ∃ t, v = .str (Str.ofString "") t
inductive SlotSt (w : World) (Z : List (Addr × Obj)) (as : List ArrRec) : List Nat → Value → Value → Prop
  | zero {x0 x1 : Value} : Emp x0 → Emp x1 → SlotSt w Z as [] x0 x1
  | one {x0 x1 : Value} {e : Nat} {r : ArrRec} : as[e]? = some r → SlotL w Z r x0 → Emp x1 → SlotSt w Z as [e] x0 x1
  | two {x0 x1 : Value} {e1 e2 : Nat} {r1 r2 : ArrRec} : as[e1]? = some r1 → as[e2]? = some r2 → SlotL w Z r1 x0 → SlotL w Z r2 x1 → SlotSt w Z as [e1, e2] x0 x1
theorem ArrF.more {w : World} {Z Z' : List (Addr × Obj)} {r : ArrRec} {k : Int} (h : ArrF w Z r k) (hs : ∀ p ∈ Z, p ∈ Z') : ArrF w Z' r k := by
  obtain ⟨a, ⟨oa, b1, b2⟩, ⟨nb, c⟩, t1, t2, e⟩ := h
  exact ⟨hs _ a, ⟨oa, hs _ b1, b2⟩, ⟨nb, hs _ c⟩, t1, t2, hs _ e⟩
theorem SlotL.more {w : World} {Z Z' : List (Addr × Obj)} {r : ArrRec} {v : Value} (h : SlotL w Z r v) (hs : ∀ p ∈ Z, p ∈ Z') : SlotL w Z' r v := by
  cases h with
  | arr => exact .arr
  | name a b c => exact .name (hs _ a) (hs _ b) c
  | pat a b c d e f g h => exact .pat (hs _ a) (hs _ b) (hs _ c) (hs _ d) (hs _ e) (hs _ f) (hs _ g) h
theorem SlotSt.more {w : World} {Z Z' : List (Addr × Obj)} {as : List ArrRec} {l : List Nat} {x0 x1 : Value} (h : SlotSt w Z as l x0 x1) (hs : ∀ p ∈ Z, p ∈ Z') : SlotSt w Z' as l x0 x1 := by
  cases h with
  | zero a b => exact .zero a b
  | one a b c => exact .one a (b.more hs) c
  | two a b c d => exact .two a b (c.more hs) (d.more hs)
def setL (x : Addr) (o' : Obj) (Z : List (Addr × Obj)) : List (Addr × Obj) := (x, o') :: Z.filter fun p => p.1 != x
theorem mem_setL {x : Addr} {o' : Obj} {Z : List (Addr × Obj)} {p : Addr × Obj} (h : p ∈ Z) (hn : p.1 ≠ x) : p ∈ setL x o' Z := List.mem_cons_of_mem _ (List.mem_filter.mpr ⟨h, by simpa using hn⟩)
theorem of_setL {x : Addr} {o' : Obj} {Z : List (Addr × Obj)} {p : Addr × Obj} (h : p ∈ setL x o' Z) : p = (x, o') ∨ (p ∈ Z ∧ p.1 ≠ x) := by
  rcases List.mem_cons.mp h with h | h
  · exact .inl h
  · obtain ⟨h1, h2⟩ := List.mem_filter.mp h
    exact .inr ⟨h1, by simpa using h2⟩
def Fn (Z : List (Addr × Obj)) : Prop := ∀ p ∈ Z, ∀ q ∈ Z, p.1 = q.1 → p.2 = q.2
theorem fn_of {g h : Heap} {L : Addr} {Z : List (Addr × Obj)} (N : News g L h Z) : Fn Z := fun p hp q hq e => by
  have h1 := (N p hp).1
  have h2 := (N q hq).1
  rw [e, h2] at h1
  exact (Option.some.inj h1).symm
theorem Fn.ne {Z : List (Addr × Obj)} (f : Fn Z) {p q : Addr × Obj} (hp : p ∈ Z) (hq : q ∈ Z) (h : p.2 ≠ q.2) : p.1 ≠ q.1 := fun e => h (f p hp q hq e)
theorem Fn.sub {Z Z' : List (Addr × Obj)} (f : Fn Z') (hs : ∀ p ∈ Z, p ∈ Z') : Fn Z := fun p hp q hq => f p (hs p hp) q (hs q hq)
theorem list_size_ne {vs us : Array Value} {n k : Nat} (h : vs.size ≠ us.size) : PySem.W.listOf vs n ≠ PySem.W.listOf us k := by
  intro e
  have := congrArg Obj.data e
  simp only [PySem.W.listOf] at this
  injection this with e1 _
  exact h (by rw [e1])
theorem inst_list_ne {c d : Addr} {vs : Array Value} {n : Nat} : instObj c d ≠ PySem.W.listOf vs n := by
  intro e
  have := congrArg Obj.cls e
  simp only [instObj, PySem.W.listOf] at this
  cases this
theorem dict_list_ne {es : List DictEntry} {k : Nat} {vs : Array Value} {n : Nat} : dictOf es k ≠ PySem.W.listOf vs n := by
  intro e
  have := congrArg Obj.data e
  simp only [dictOf, PySem.W.listOf] at this
  cases this
theorem tup_list_ne {its : List Value} {vs : Array Value} {n : Nat} : tupOf its ≠ PySem.W.listOf vs n := by
  intro e
  have := congrArg Obj.cls e
  simp only [PySem.W.listOf] at this
  injection this with e1
  exact absurd e1 (by decide)
theorem ArrF.set {w : World} {Z : List (Addr × Obj)} {r : ArrRec} {k : Int} {x : Addr} {o' : Obj} {vs : Array Value} {n : Nat} (f : Fn Z) (hx : (x, PySem.W.listOf vs n) ∈ Z) (hv : 2 ≤ vs.size) (h : ArrF w Z r k) : ArrF w (setL x o' Z) r k := by
  obtain ⟨a, ⟨oa, b1, b2⟩, ⟨nb, c⟩, t1, t2, e⟩ := h
  refine ⟨mem_setL a (f.ne a hx inst_list_ne), ⟨oa, mem_setL b1 (f.ne b1 hx ?_), b2⟩, ⟨nb, mem_setL c (f.ne c hx (list_size_ne ?_))⟩, t1, t2, mem_setL e (f.ne e hx tup_list_ne)⟩
  · obtain ⟨_, _, _, _, _, _, _, _, _, _, rfl⟩ := b2
    exact dict_list_ne
  · show 1 ≠ vs.size
    omega
theorem SlotL.set {w : World} {Z : List (Addr × Obj)} {r : ArrRec} {v : Value} {x : Addr} {o' : Obj} {vs : Array Value} {n : Nat} (f : Fn Z) (hx : (x, PySem.W.listOf vs n) ∈ Z) (h : SlotL w Z r v) : SlotL w (setL x o' Z) r v := by
  have hd : ∀ {od : Obj} {a : Addr} {j : Int}, NameDict w od a j → od ≠ PySem.W.listOf vs n := by
    rintro od a j ⟨_, _, _, _, _, rfl⟩
    exact dict_list_ne
  cases h with
  | arr => exact .arr
  | name a b c => exact .name (mem_setL a (f.ne a hx inst_list_ne)) (mem_setL b (f.ne b hx (hd c))) c
  | pat a b c d e g h i => exact .pat (mem_setL a (f.ne a hx inst_list_ne)) (mem_setL b (f.ne b hx dict_list_ne)) (mem_setL c (f.ne c hx tup_list_ne)) (mem_setL d (f.ne d hx tup_list_ne)) (mem_setL e (f.ne e hx tup_list_ne)) (mem_setL g (f.ne g hx inst_list_ne)) (mem_setL h (f.ne h hx (hd i))) i
theorem SlotSt.set {w : World} {Z : List (Addr × Obj)} {as : List ArrRec} {l : List Nat} {x0 x1 : Value} {x : Addr} {o' : Obj} {vs : Array Value} {n : Nat} (f : Fn Z) (hx : (x, PySem.W.listOf vs n) ∈ Z) (h : SlotSt w Z as l x0 x1) : SlotSt w (setL x o' Z) as l x0 x1 := by
  cases h with
  | zero a b => exact .zero a b
  | one a b c => exact .one a (b.set f hx) c
  | two a b c d => exact .two a b (c.set f hx) (d.set f hx)
theorem tab_set {w : World} {Z : List (Addr × Obj)} {x fd : Addr} {o' : Obj} {vs : Array Value} {n : Nat} {D : List (PyData × PyData)} (f : Fn Z) (hx : (x, PySem.W.listOf vs n) ∈ Z) (T : TupTab (intKind prog0 w) PyData.int Z fd D) : TupTab (intKind prog0 w) PyData.int (setL x o' Z) fd D := by
  obtain ⟨lo, o, es, ep, xs, h1, hc, hd, he, hn, hks, hf⟩ := T
  have hl : (PySem.W.listOf vs n).cls = .type "list" := rfl
  refine ⟨lo, o, es, ep, xs, mem_setL h1 (f.ne h1 hx fun e => ?_), hc, hd, he, hn, fun y hy => ?_, hf⟩
  · have h9 := hc.1
    have e' : o = PySem.W.listOf vs n := e
    rw [e', hl] at h9
    injection h9 with h9
    exact absurd h9 (by decide)
  · obtain ⟨ok, h2, t⟩ := hks y hy
    refine ⟨ok, mem_setL h2 (f.ne h2 hx fun e => ?_), t⟩
    have h9 := t.1
    have e' : ok = PySem.W.listOf vs n := e
    rw [e', hl] at h9
    injection h9 with h9
    exact absurd h9 (by decide)
structure St (w : World) (n : Nat) (al ul fd : Addr) (as : List ArrRec) (adj : Nat → List Nat) (f : Nat → Nat → Int) (Z : List (Addr × Obj)) : Prop where
  hal : ∃ c, (al, PySem.W.listOf (as.map fun r => Value.ref r.a).toArray c) ∈ Z
  asl : as.length = n
  hn : n = 3 ∨ n = 4
  arr : ∀ (j : Nat) (r : ArrRec), as[j]? = some r → ArrF w Z r ((j : Int) + 1)
  ils : (as.map fun r => r.il).Nodup
  used : ∃ us c, (ul, PySem.W.listOf us.toArray c) ∈ Z ∧ IntsAre us ((List.range n).map fun i => ((adj i).length : Int))
  slots : ∀ (j : Nat) (r : ArrRec), as[j]? = some r → ∃ x0 x1 c, (r.il, PySem.W.listOf #[x0, x1] c) ∈ Z ∧ SlotSt w Z as (adj j) x0 x1
  far : ∃ D, TupTab (intKind prog0 w) PyData.int Z fd D ∧ D.length ≤ 16 ∧ ∀ a b : Nat, a < n → b < n → lookup (key2 a b) D = some (.int (f a b))
  dist : ∀ i j, i < n → j < n → Dist adj [i] j (f i j)
  fb : ∀ i j, 0 ≤ f i j ∧ f i j ≤ 99
  out : ∀ i, i < n → ∀ j ∈ adj i, j < n
inductive LinkL (w : World) (rest : List (Addr × Obj)) (lk : Addr) (n : Nat) (adj : Nat → List Nat) (k : Nat) : Prop
  | mk (D) (e1 : TupTab (intKind prog0 w) PyData.int rest lk D) (e2 : D.length ≤ k) (e3 : ∀ i j : Nat, j ∈ adj i → i < n → (lookup (enc2 [(i : Int) + 1, (j : Int) + 1]) D).isSome = true) : LinkL w rest lk n adj k
theorem far_more {w : World} {n : Nat} {fd : Addr} {f : Nat → Nat → Int} {Z Z' : List (Addr × Obj)} (h : ∃ D, TupTab (intKind prog0 w) PyData.int Z fd D ∧ D.length ≤ 16 ∧ ∀ a b : Nat, a < n → b < n → lookup (key2 a b) D = some (.int (f a b))) (hs : ∀ p ∈ Z, p ∈ Z') :
    ∃ D, TupTab (intKind prog0 w) PyData.int Z' fd D ∧ D.length ≤ 16 ∧ ∀ a b : Nat, a < n → b < n → lookup (key2 a b) D = some (.int (f a b)) := by
  obtain ⟨D, a, b, c⟩ := h
  exact ⟨D, tab_sub a hs, b, c⟩
theorem St.more {w : World} {n : Nat} {al ul fd : Addr} {as : List ArrRec} {adj : Nat → List Nat} {f : Nat → Nat → Int} {Z Z' : List (Addr × Obj)} (S : St w n al ul fd as adj f Z) (hs : ∀ p ∈ Z, p ∈ Z') : St w n al ul fd as adj f Z' := by
  obtain ⟨c, h1⟩ := S.hal
  obtain ⟨us, c2, h2, h3⟩ := S.used
  exact ⟨⟨c, hs _ h1⟩, S.asl, S.hn, fun j r h => (S.arr j r h).more hs, S.ils, ⟨us, c2, hs _ h2, h3⟩, fun j r h => let ⟨x0, x1, c, a, b⟩ := S.slots j r h; ⟨x0, x1, c, hs _ a, b.more hs⟩, far_more S.far hs, S.dist, S.fb, S.out⟩
theorem LinkL.more {w : World} {rest rest' : List (Addr × Obj)} {lk : Addr} {n : Nat} {adj : Nat → List Nat} {k : Nat} (h : LinkL w rest lk n adj k) (hs : ∀ p ∈ rest, p ∈ rest') : LinkL w rest' lk n adj k := by
  obtain ⟨D, a, b, c⟩ := h
  exact ⟨D, tab_sub a hs, b, c⟩
theorem LinkL.set {w : World} {rest : List (Addr × Obj)} {lk x : Addr} {o' : Obj} {vs : Array Value} {c n : Nat} {adj : Nat → List Nat} {k : Nat} (f : Fn rest) (hx : (x, PySem.W.listOf vs c) ∈ rest) (h : LinkL w rest lk n adj k) : LinkL w (setL x o' rest) lk n adj k := by
  obtain ⟨D, a, b, c⟩ := h
  exact ⟨D, tab_set f hx a, b, c⟩
theorem LinkL.at {w : World} {rest : List (Addr × Obj)} {lk : Addr} {n : Nat} {adj : Nat → List Nat} {k : Nat} {g h : Heap} {L : Addr} (l : LinkL w rest lk n adj k) (N : News g L h rest) : ∃ D, LinksAt prog0 w h lk n adj D := by
  obtain ⟨D, a, b, c⟩ := l
  exact ⟨D, a.at N, c⟩
theorem St.farAt {w : World} {n : Nat} {al ul fd : Addr} {as : List ArrRec} {adj : Nat → List Nat} {f : Nat → Nat → Int} {Z : List (Addr × Obj)} {g h : Heap} {L : Addr} (S : St w n al ul fd as adj f Z) (N : News g L h Z) : ∃ D, FarAt prog0 w h fd n f D := by
  obtain ⟨D, a, b, c⟩ := S.far
  exact ⟨D, a.at N, c⟩
theorem SlotL.v {w : World} {Z : List (Addr × Obj)} {r : ArrRec} {v : Value} {g h : Heap} {L : Addr} {k : Int} (N : News g L h Z) (A : ArrF w Z r k) (s : SlotL w Z r v) : ∃ c, SlotV w h v [r.a] c := by
  have ha : ArrAt w h r.a k r.il := by
    obtain ⟨oa, h1, t1, t2, t3, t4, t5, t6, t7, t8, t9, t10, rfl⟩ := A.dict
    exact ⟨r.d, t1, t2, t3, t4, t5, t6, t7, t8, t9, t10, r.bl, (N _ A.inst).1, (N _ h1).1⟩
  have hn : ∀ {n dn : Addr} {od : Obj}, (n, instObj 117 dn) ∈ Z → (dn, od) ∈ Z → NameDict w od r.a 0 → NameAt w h n r.a := by
    rintro n dn od h1 h2 ⟨t1, t2, t3, t4, t5, rfl⟩
    exact ⟨dn, t1, t2, t3, t4, t5, (N _ h1).1, (N _ h2).1⟩
  cases s with
  | arr => exact ⟨1, .arr ha⟩
  | name a b c => exact ⟨2, .name (hn a b c) ha⟩
  | pat a b c d e f g i => exact ⟨3, .pat ⟨_, _, _, _, _, _, _, _, (N _ a).1, (N _ b).1, (N _ c).1, (N _ d).1, (N _ e).1⟩ (hn f g i) ha⟩
def adOf (as : List ArrRec) (i : Nat) : Addr := ((as[i]?).map fun r => r.a).getD 0
theorem adOf_of {as : List ArrRec} {i : Nat} {r : ArrRec} (h : as[i]? = some r) : adOf as i = r.a := by simp [adOf, h]
theorem St.rec_ {w : World} {n : Nat} {al ul fd : Addr} {as : List ArrRec} {adj : Nat → List Nat} {f : Nat → Nat → Int} {Z : List (Addr × Obj)} (S : St w n al ul fd as adj f Z) {i : Nat} (hi : i < n) : ∃ r, as[i]? = some r := ⟨as[i]'(by rw [S.asl]; exact hi), by simp [S.asl, hi]⟩
theorem St.graph {w : World} {n : Nat} {al ul fd : Addr} {as : List ArrRec} {adj : Nat → List Nat} {f : Nat → Nat → Int} {Z : List (Addr × Obj)} {g h : Heap} {L : Addr} (S : St w n al ul fd as adj f Z) (N : News g L h Z) : GraphAt w h n (adOf as) adj := by
  refine ⟨fun i hi => ?_, S.out⟩
  obtain ⟨r, hr⟩ := S.rec_ hi
  obtain ⟨x0, x1, c, h1, h2⟩ := S.slots i r hr
  have A := S.arr i r hr
  have ha : ArrAt w h r.a ((i : Int) + 1) r.il := by
    obtain ⟨oa, h1, t1, t2, t3, t4, t5, t6, t7, t8, t9, t10, rfl⟩ := A.dict
    exact ⟨r.d, t1, t2, t3, t4, t5, t6, t7, t8, t9, t10, r.bl, (N _ A.inst).1, (N _ h1).1⟩
  have hs : ∃ k ts, Slots w h [x0, x1] ts k ∧ ts = (adj i).map (adOf as) := by
    cases hadj : adj i with
    | nil =>
      rw [hadj] at h2
      cases h2 with
      | zero a b =>
        obtain ⟨t0, rfl⟩ := a
        obtain ⟨t1, rfl⟩ := b
        exact ⟨_, _, .cons .str (.cons .str .nil), rfl⟩
    | cons e1 l1 =>
      cases l1 with
      | nil =>
        rw [hadj] at h2
        cases h2 with
        | one a b c =>
          obtain ⟨t1, rfl⟩ := c
          obtain ⟨k, hk⟩ := b.v N (S.arr _ _ a)
          exact ⟨_, _, .cons hk (.cons .str .nil), by simp [adOf_of a]⟩
      | cons e2 l2 =>
        rw [hadj] at h2
        cases h2 with
        | two a b c d =>
          obtain ⟨k1, hk1⟩ := c.v N (S.arr _ _ a)
          obtain ⟨k2, hk2⟩ := d.v N (S.arr _ _ b)
          exact ⟨_, _, .cons hk1 (.cons hk2 .nil), by simp [adOf_of a, adOf_of b]⟩
  obtain ⟨k, ts, h3, rfl⟩ := hs
  exact ⟨r.il, [x0, x1], c, k, _, by rw [adOf_of hr]; exact ha, (N _ h1).1, by simp, h3, List.Perm.refl _⟩
end Mine
end
section
open PySem PySem.W PyProof.Rows PySem.Calls PySem.Spec PyProof.V
namespace Mine
noncomputable def lawTurn : List Stmt := match lawS 5 with | .For _ _ body _ _ => body | _ => []
noncomputable def tS (i : Nat) : Stmt := lawTurn.getD i (.Pass ⟨0, 0, 0, 0⟩)
abbrev LM (l b al lk ul : Addr) (n : Nat) (tm : Tok) (fd : Addr) (vt vb ve vf vn vv vs vo vp vl : Option Value) : Str → Option Value := fun y => if y = Str.ofString "least" then vl else if y = Str.ofString "other" then vp else if y = Str.ofString "one" then vo else if y = Str.ofString "side" then vs else if y = Str.ofString "value" then vv else if y = Str.ofString "name" then vn else if y = Str.ofString "form" then vf else if y = Str.ofString "end" then ve else if y = Str.ofString "begin" then vb else if y = Str.ofString "turn" then vt else baseM l b al lk fd ul n tm y
section
variable {l b al lk ul fd fd' : Addr} {n : Nat} {tm : Tok} {vt vb ve vf vn vv vs vo vp vl x : Option Value}
theorem LM_least : (fun y => if y = Str.ofString "least" then x else LM l b al lk ul n tm fd vt vb ve vf vn vv vs vo vp vl y) = LM l b al lk ul n tm fd vt vb ve vf vn vv vs vo vp x := by
  funext y
  by_cases h : y = Str.ofString "least"
  · subst h; with_unfolding_all rfl
  · simp only [LM, baseM, if_neg h]
theorem LM_other : (fun y => if y = Str.ofString "other" then x else LM l b al lk ul n tm fd vt vb ve vf vn vv vs vo vp vl y) = LM l b al lk ul n tm fd vt vb ve vf vn vv vs vo x vl := by
  funext y
  by_cases h : y = Str.ofString "other"
  · subst h; with_unfolding_all rfl
  · simp only [LM, baseM, if_neg h]
theorem LM_one : (fun y => if y = Str.ofString "one" then x else LM l b al lk ul n tm fd vt vb ve vf vn vv vs vo vp vl y) = LM l b al lk ul n tm fd vt vb ve vf vn vv vs x vp vl := by
  funext y
  by_cases h : y = Str.ofString "one"
  · subst h; with_unfolding_all rfl
  · simp only [LM, baseM, if_neg h]
theorem LM_side : (fun y => if y = Str.ofString "side" then x else LM l b al lk ul n tm fd vt vb ve vf vn vv vs vo vp vl y) = LM l b al lk ul n tm fd vt vb ve vf vn vv x vo vp vl := by
  funext y
  by_cases h : y = Str.ofString "side"
  · subst h; with_unfolding_all rfl
  · simp only [LM, baseM, if_neg h]
theorem LM_value : (fun y => if y = Str.ofString "value" then x else LM l b al lk ul n tm fd vt vb ve vf vn vv vs vo vp vl y) = LM l b al lk ul n tm fd vt vb ve vf vn x vs vo vp vl := by
  funext y
  by_cases h : y = Str.ofString "value"
  · subst h; with_unfolding_all rfl
  · simp only [LM, baseM, if_neg h]
theorem LM_name : (fun y => if y = Str.ofString "name" then x else LM l b al lk ul n tm fd vt vb ve vf vn vv vs vo vp vl y) = LM l b al lk ul n tm fd vt vb ve vf x vv vs vo vp vl := by
  funext y
  by_cases h : y = Str.ofString "name"
  · subst h; with_unfolding_all rfl
  · simp only [LM, baseM, if_neg h]
theorem LM_form : (fun y => if y = Str.ofString "form" then x else LM l b al lk ul n tm fd vt vb ve vf vn vv vs vo vp vl y) = LM l b al lk ul n tm fd vt vb ve x vn vv vs vo vp vl := by
  funext y
  by_cases h : y = Str.ofString "form"
  · subst h; with_unfolding_all rfl
  · simp only [LM, baseM, if_neg h]
theorem LM_end : (fun y => if y = Str.ofString "end" then x else LM l b al lk ul n tm fd vt vb ve vf vn vv vs vo vp vl y) = LM l b al lk ul n tm fd vt vb x vf vn vv vs vo vp vl := by
  funext y
  by_cases h : y = Str.ofString "end"
  · subst h; with_unfolding_all rfl
  · simp only [LM, baseM, if_neg h]
theorem LM_begin : (fun y => if y = Str.ofString "begin" then x else LM l b al lk ul n tm fd vt vb ve vf vn vv vs vo vp vl y) = LM l b al lk ul n tm fd vt x ve vf vn vv vs vo vp vl := by
  funext y
  by_cases h : y = Str.ofString "begin"
  · subst h; with_unfolding_all rfl
  · simp only [LM, baseM, if_neg h]
theorem LM_turn : (fun y => if y = Str.ofString "turn" then x else LM l b al lk ul n tm fd vt vb ve vf vn vv vs vo vp vl y) = LM l b al lk ul n tm fd x vb ve vf vn vv vs vo vp vl := by
  funext y
  by_cases h : y = Str.ofString "turn"
  · subst h; with_unfolding_all rfl
  · simp only [LM, baseM, if_neg h]
theorem LM_far : (fun y => if y = Str.ofString "far" then some (.ref fd') else LM l b al lk ul n tm fd vt vb ve vf vn vv vs vo vp vl y) = LM l b al lk ul n tm fd' vt vb ve vf vn vv vs vo vp vl := by
  funext y
  by_cases h : y = Str.ofString "far"
  · subst h; with_unfolding_all rfl
  · simp only [LM, baseM, if_neg h]
end
structure TS (s0 : Shared) (w : World) (g : Heap) (L b sc al lk ul fd : Addr) (n : Nat) (as : List ArrRec) (adj : Nat → List Nat) (f : Nat → Nat → Int) (c : Int) (k : Nat) (own : List (Addr × Obj)) (m : Str → Option Value) (tc : Tok) (n0 n1 : Nat) (items : List Value) (ns : List Int) (rest Z : List (Addr × Obj)) (s : Shared) : Prop where
  F : Fr g L s.heap m
  N : News g L s.heap ((b, PySem.W.listOf [.ref sc, .int c tc].toArray n0) :: (sc, PySem.W.listOf items.toArray n1) :: rest)
  hbs : @Ne Nat b sc
  off : ∀ p ∈ rest, p.1 ≠ b ∧ p.1 ≠ sc
  hZ : ∀ p ∈ Z, p ∈ rest ∧ p.1 ≠ lk
  hown : ∀ q ∈ own, q ∈ rest
  hints : IntsAre items ns
  len : items.length ≤ 100
  S : St w n al ul fd as adj f Z
  K : LinkL w rest lk n adj k
  sm : SameS s0 s
theorem TS.NZ {s0 : Shared} {w : World} {g : Heap} {L b sc al lk ul fd : Addr} {n : Nat} {as : List ArrRec} {adj : Nat → List Nat} {f : Nat → Nat → Int} {c : Int} {k : Nat} {own : List (Addr × Obj)} {m : Str → Option Value} {tc : Tok} {n0 n1 : Nat} {items : List Value} {ns : List Int} {rest Z : List (Addr × Obj)} {s : Shared}
    (H : TS s0 w g L b sc al lk ul fd n as adj f c k own m tc n0 n1 items ns rest Z s) : News g L s.heap Z := fun p hp => H.N p (.tail _ (.tail _ (H.hZ p hp).1))
inductive NameL (w : World) (Z : List (Addr × Obj)) (nm : Addr) (a : Addr) : Prop
  | mk (dn od) (e1 : (nm, instObj 117 dn) ∈ Z) (e2 : (dn, od) ∈ Z) (e3 : NameDict w od a 0) : NameL w Z nm a
theorem use_name {w : World} {A : Around} {s : Shared} {g : Heap} {L a : Addr} {m : Str → Option Value} {news : List (Addr × Obj)} {u v : Tok} {Q : Value → Shared → Prop} {E : Value → Shared → Prop} {mean : ExcName → Option Value} {mg mb : Str → Option Value}
    (X : KIn w g) (T : TopAt mean mg mb g) (F : Fr g L s.heap m) (N : News g L s.heap news) (hh : A.handled = none) (hd : A.depth ≤ 600) (hu : A.units ≤ 600)
    (k : ∀ nm dn od h' tk, Fr g L h' m → News g L h' ((nm, instObj 117 dn) :: (dn, od) :: news) → NameDict w od a 0 → (∀ p ∈ news, @Ne Nat p.1 nm) → (∀ p ∈ news, @Ne Nat p.1 dn) → Q (.ref nm) { s with heap := h', toks := tk }) :
    wpAny (model prog0 w) A (call (.ref 117) [.str (Str.ofString "item") u, .ref a, .int 0 v]) Q E s := by
  refine weaken 600 600 hh hd hu (wpAny_mono (name_new X T F N) (fun v s' hr => ?_) fun _ _ x => x.elim)
  obtain ⟨nm, dn, od, h', tk, rfl, rfl, F', N', hd, q1, q2⟩ := hr
  exact k nm dn od h' tk F' N' hd q1 q2
section
local macro_rules | `(tactic| k_all) => `(tactic| assumption)
inductive P_turn_t0 (l : Addr) (b : Addr) (al : Addr) (lk : Addr) (ul : Addr) (fd : Addr) (n : Nat) (tm : Tok) (vt : Option Value) (vn : Option Value) (vv : Option Value) (vs : Option Value) (vo : Option Value) (vp : Option Value) (vl : Option Value) (s0 : Shared) (w : World) (g : Heap) (L : Addr) (sc : Addr) (as : List ArrRec) (adj : Nat → List Nat) (f : Nat → Nat → Int) (c : Int) (k : Nat) (own : List (Addr × Obj)) (rest : List (Addr × Obj)) (Z : List (Addr × Obj)) (s' : Shared) : Prop
  | mk (bg en fo : Nat) (t1 t2 t3 tc : Tok) (n0 n1 : Nat) (items : List Value) (ns : List Int) (e1 : bg < n) (e2 : en < n) (e3 : fo < 3) (e4 : TS s0 w g L b sc al lk ul fd n as adj f (c + 3) k own (LM l b al lk ul n tm fd vt (some (.int (bg : Int) t1)) (some (.int (en : Int) t2)) (some (.int (fo : Int) t3)) vn vv vs vo vp vl) tc n0 n1 items ns rest Z s') : P_turn_t0 l b al lk ul fd n tm vt vn vv vs vo vp vl s0 w g L sc as adj f c k own rest Z s'
theorem turn_t0 {s0 : Shared} {w : World} {s : Shared} {g : Heap} {fa L l b sc al lk ul fd : Addr} {cv : Value} {n : Nat} {tm : Tok} {as : List ArrRec} {adj : Nat → List Nat} {f : Nat → Nat → Int} {c : Int} {k : Nat} {own : List (Addr × Obj)} {tc : Tok} {n0 n1 : Nat} {items : List Value} {ns : List Int} {rest Z : List (Addr × Obj)} {vt vb ve vf vn vv vs vo vp vl : Option Value} {mean : ExcName → Option Value} {mg mb : Str → Option Value}
    (X : (Mine.hd.heap_1 w.params).In g) (T : Top Mine.view (looseW Mine.view [Str.ofString "SnobolError"]) mean mg mb g)
    (H : TS s0 w g L b sc al lk ul fd n as adj f c k own (LM l b al lk ul n tm fd vt vb ve vf vn vv vs vo vp vl) tc n0 n1 items ns rest Z s) (hc0 : 0 ≤ c) (hc1 : c ≤ 900) :
    wpAny (model PySem.Challenge.rw_sj0194_01.row.prog w) ((AA 310 200).deeper (lawEnv L fa cv)) (exec (tS 0) (lawEnv L fa cv)) (NextP (P_turn_t0 l b al lk ul fd n tm vt vn vv vs vo vp vl s0 w g L sc as adj f c k own rest Z)) (fun _ _ => False) s := by
  dsimp only [lawEnv, tS, lawTurn, lawS, lawBody, lawScope, lawP, mkLaw, gz, gs]
  revert T X; k_fill; intro X T
  k_with_none
  w_top off
  k_with "call ref" => refine Mine.stop ?_
  k_whole
  (try k_fold)
  obtain ⟨F', N', hbs, off, hZ, hown, hI, hlen, S, K, sm⟩ := H
  have hn4 : n ≤ 4 := by have := S.hn; omega
  have hn3 : 3 ≤ n := by have := S.hn; omega
  k_steps
  change wpAny _ _ _ _ _ _
  refine use_take X T F' N' rfl (Nat.le_of_ble_eq_true rfl) (Nat.le_of_ble_eq_true rfl) hbs (fun p hp => (off p hp).1) (fun p hp => (off p hp).2) hI hlen (by omega) (by omega) hc0 (by omega) ?_
  clear F' N' hI hlen
  rintro h' tk' x1 t1 u1 items1 ns1 m1 m2 a1 a2 hI hlen F' N'
  k_steps
  change wpAny _ _ _ _ _ _
  refine use_take X T F' N' rfl (Nat.le_of_ble_eq_true rfl) (Nat.le_of_ble_eq_true rfl) hbs (fun p hp => (off p hp).1) (fun p hp => (off p hp).2) hI hlen (by omega) (by omega) (by omega) (by omega) ?_
  clear F' N' hI hlen
  rintro h' tk' x2 t2 u2 items2 ns2 m3 m4 a3 a4 hI hlen F' N'
  k_steps
  change wpAny _ _ _ _ _ _
  refine use_take X T F' N' rfl (Nat.le_of_ble_eq_true rfl) (Nat.le_of_ble_eq_true rfl) hbs (fun p hp => (off p hp).1) (fun p hp => (off p hp).2) hI hlen (by omega) (by omega) (by omega) (by omega) ?_
  clear F' N' hI hlen
  rintro h' tk' x3 t3 u3 items3 ns3 m5 m6 a5 a6 hI hlen F' N'
  k_steps
  rename Fr _ _ _ _ => F1
  rename News _ _ _ _ => N1
  obtain ⟨bg, rfl⟩ := Int.eq_ofNat_of_zero_le a1
  obtain ⟨en, rfl⟩ := Int.eq_ofNat_of_zero_le a3
  obtain ⟨fo, rfl⟩ := Int.eq_ofNat_of_zero_le a5
  have F2 : Fr g L _ (fun y => if y = Str.ofString "begin" then some (.int (bg : Int) t1) else (fun y => if y = Str.ofString "end" then some (.int (en : Int) t2) else (fun y => if y = Str.ofString "form" then some (.int (fo : Int) t3) else LM l b al lk ul n tm fd vt vb ve vf vn vv vs vo vp vl y) y) y) := F1
  rw [LM_form] at F2
  rw [LM_end] at F2
  rw [LM_begin] at F2
  have hc3 : c + 1 + 1 + 1 = c + 3 := by omega
  rw [hc3] at N1
  exact nextP ⟨bg, en, fo, t1, t2, t3, _, _, _, _, _, by omega, by omega, by omega, ⟨F2, news_sub N1 (fun p hp => .tail _ hp), hbs, off, hZ, hown, hI, hlen, S, K, sm⟩⟩
inductive P_turn_t1 (l : Addr) (b : Addr) (al : Addr) (lk : Addr) (ul : Addr) (fd : Addr) (n : Nat) (tm : Tok) (vt : Option Value) (vv : Option Value) (vs : Option Value) (vo : Option Value) (vp : Option Value) (vl : Option Value) (s0 : Shared) (w : World) (g : Heap) (L : Addr) (sc : Addr) (as : List ArrRec) (adj : Nat → List Nat) (f : Nat → Nat → Int) (c : Int) (k : Nat) (own : List (Addr × Obj)) (tc : Tok) (n0 : Nat) (n1 : Nat) (items : List Value) (ns : List Int) (bg : Nat) (en : Nat) (fo : Nat) (t1 : Tok) (t2 : Tok) (t3 : Tok) (s' : Shared) : Prop
  | mk (nm : Addr) (rest Z : List (Addr × Obj)) (r : ArrRec) (e1 : as[en]? = some r) (e2 : NameL w Z nm r.a) (e3 : TS s0 w g L b sc al lk ul fd n as adj f c k own (LM l b al lk ul n tm fd vt (some (.int (bg : Int) t1)) (some (.int (en : Int) t2)) (some (.int (fo : Int) t3)) (some (.ref nm)) vv vs vo vp vl) tc n0 n1 items ns rest Z s') : P_turn_t1 l b al lk ul fd n tm vt vv vs vo vp vl s0 w g L sc as adj f c k own tc n0 n1 items ns bg en fo t1 t2 t3 s'
theorem turn_t1 {s0 : Shared} {w : World} {s : Shared} {g : Heap} {fa L l b sc al lk ul fd : Addr} {cv : Value} {n : Nat} {tm : Tok} {as : List ArrRec} {adj : Nat → List Nat} {f : Nat → Nat → Int} {c : Int} {k : Nat} {own : List (Addr × Obj)} {tc : Tok} {n0 n1 : Nat} {items : List Value} {ns : List Int} {rest Z : List (Addr × Obj)} {bg en fo : Nat} {t1 t2 t3 : Tok} {vt vn vv vs vo vp vl : Option Value} {mean : ExcName → Option Value} {mg mb : Str → Option Value}
    (X : (Mine.hd.heap_1 w.params).In g) (T : Top Mine.view (looseW Mine.view [Str.ofString "SnobolError"]) mean mg mb g)
    (H : TS s0 w g L b sc al lk ul fd n as adj f c k own (LM l b al lk ul n tm fd vt (some (.int (bg : Int) t1)) (some (.int (en : Int) t2)) (some (.int (fo : Int) t3)) vn vv vs vo vp vl) tc n0 n1 items ns rest Z s) (hen : en < n) :
    wpAny (model PySem.Challenge.rw_sj0194_01.row.prog w) ((AA 310 200).deeper (lawEnv L fa cv)) (exec (tS 1) (lawEnv L fa cv)) (NextP (P_turn_t1 l b al lk ul fd n tm vt vv vs vo vp vl s0 w g L sc as adj f c k own tc n0 n1 items ns bg en fo t1 t2 t3)) (fun _ _ => False) s := by
  dsimp only [lawEnv, tS, lawTurn, lawS, lawBody, lawScope, lawP, mkLaw, gz, gs]
  revert T X; k_fill; intro X T
  k_with_none
  w_top off
  k_with "call ref" => refine Mine.stop ?_
  k_with "subscriptTail Name Name ref int" => refine Mine.stop ?_
  k_whole
  (try k_fold)
  obtain ⟨F', N', hbs, off, hZ, hown, hI, hlen, S, K, sm⟩ := H
  have hn4 : n ≤ 4 := by have := S.hn; omega
  obtain ⟨r, hr⟩ := S.rec_ hen
  obtain ⟨cal, hal⟩ := S.hal
  k_steps
  change wpAny _ _ _ _ _ _
  refine item1 (k := (en : Int)) (v := .ref r.a) N' (.tail _ (.tail _ (hZ _ hal).1)) (by omega) (by omega) (by simp [hr]) ?_
  k_steps
  change wpAny _ _ _ _ _ _
  refine use_name X T F' N' rfl (Nat.le_of_ble_eq_true rfl) (Nat.le_of_ble_eq_true rfl) ?_
  rintro nm dn od h' tk' F' N' hnd q1 q2
  k_steps
  rename Fr _ _ _ _ => F1
  rename News _ _ _ _ => N1
  have F2 : Fr g L _ (fun y => if y = Str.ofString "name" then some (.ref nm) else LM l b al lk ul n tm fd vt (some (.int (bg : Int) t1)) (some (.int (en : Int) t2)) (some (.int (fo : Int) t3)) vn vv vs vo vp vl y) := F1
  rw [LM_name] at F2
  obtain ⟨Dl, hDl, hDk, hDh⟩ := K
  have hlk : ∃ ol, (lk, ol) ∈ rest := by obtain ⟨_, o, _, _, _, h1, _⟩ := hDl; exact ⟨o, h1⟩
  obtain ⟨ol, hlk⟩ := hlk
  refine nextP ⟨nm, (nm, instObj 117 dn) :: (dn, od) :: rest, (nm, instObj 117 dn) :: (dn, od) :: Z, r, hr, ⟨dn, od, .head _, .tail _ (.head _), hnd⟩, ⟨F2, news_sub N1 (fun p hp => ?_), hbs, fun p hp => ?_, fun p hp => ?_, fun q hq => .tail _ (.tail _ (hown q hq)), hI, hlen, S.more fun p hp => .tail _ (.tail _ hp), LinkL.more ⟨Dl, hDl, hDk, hDh⟩ fun p hp => .tail _ (.tail _ hp), sm⟩⟩
  · rcases List.mem_cons.mp hp with rfl | hp
    · exact .tail _ (.tail _ (.head _))
    rcases List.mem_cons.mp hp with rfl | hp
    · exact .tail _ (.tail _ (.tail _ (.head _)))
    rcases List.mem_cons.mp hp with rfl | hp
    · exact .head _
    rcases List.mem_cons.mp hp with rfl | hp
    · exact .tail _ (.head _)
    · exact .tail _ (.tail _ (.tail _ (.tail _ hp)))
  · rcases List.mem_cons.mp hp with rfl | hp
    · exact ⟨Ne.symm (q1 _ (.head _)), Ne.symm (q1 _ (.tail _ (.head _)))⟩
    rcases List.mem_cons.mp hp with rfl | hp
    · exact ⟨Ne.symm (q2 _ (.head _)), Ne.symm (q2 _ (.tail _ (.head _)))⟩
    · exact off p hp
  · rcases List.mem_cons.mp hp with rfl | hp
    · exact ⟨.head _, Ne.symm (q1 _ (.tail _ (.tail _ hlk)))⟩
    rcases List.mem_cons.mp hp with rfl | hp
    · exact ⟨.tail _ (.head _), Ne.symm (q2 _ (.tail _ (.tail _ hlk)))⟩
    · exact ⟨.tail _ (.tail _ (hZ p hp).1), (hZ p hp).2⟩
end
end Mine
end
section
open PySem PySem.W PyProof.Rows PySem.Calls PySem.Spec PyProof.V
namespace Mine
theorem set_at {prog : Program} {w : World} {A : Around} {E : Value → Shared → Prop} {s : Shared} {x : Addr} {vs : List Value} {c i : Nat} {kk : Int} {t : Tok} {v : Value} {Q : Unit → Shared → Prop}
    (hx : s.heap.get? x = some (PySem.W.listOf vs.toArray c)) (hi : kk = (i : Int)) (hlt : i < vs.length) (hl : vs.length ≤ 100)
    (h : ∀ h', But [x] s.heap h' → h'.get? x = some (PySem.W.listOf (vs.set i v).toArray c) → Q () { s with heap := h' }) : wpAny (model prog w) A (setItem (.ref x) (.int kk t) v) Q E s := by
  refine ki_setAt hx (by omega) (by omega) (by simp; omega) (h _ (fun b o hb e => (Heap.get?_update_other _ _ (fun q => hb (by simp [q]))).trans e) ?_)
  have q := PySem.IsL.update hx (fun a => a.setIfInBounds kk.toNat v)
  subst hi
  rw [Int.toNat_natCast, List.setIfInBounds_toArray] at q
  have e : ((vs.set i v).toArray.size == vs.toArray.size) = true := by simp
  rw [e] at q
  exact q
theorem news_setL {g h h' : Heap} {L x : Addr} {o o' : Obj} {pre Z : List (Addr × Obj)} (B : But [x] h h') (N : News g L h (pre ++ Z)) (hx : (x, o) ∈ Z) (hp : ∀ p ∈ pre, p.1 ≠ x) (e : h'.get? x = some o') : News g L h' (pre ++ setL x o' Z) := by
  intro p hm
  rcases List.mem_append.mp hm with hm | hm
  · exact ⟨B _ _ (fun q => hp p hm (List.mem_singleton.mp q)) (N p (List.mem_append.mpr (.inl hm))).1, (N p (List.mem_append.mpr (.inl hm))).2⟩
  · rcases of_setL hm with rfl | ⟨h1, h2⟩
    · exact ⟨e, (N _ (List.mem_append.mpr (.inr hx))).2⟩
    · exact ⟨B _ _ (fun q => h2 (List.mem_singleton.mp q)) (N p (List.mem_append.mpr (.inr h1))).1, (N p (List.mem_append.mpr (.inr h1))).2⟩
theorem but_fr {g h h' : Heap} {L x : Addr} {o : Obj} {m : Str → Option Value} {Z : List (Addr × Obj)} (B : But [x] h h') (F : Fr g L h m) (N : News g L h Z) (hx : (x, o) ∈ Z) : Fr g L h' m :=
  B.fr F (fun d hd => by rw [List.mem_singleton.mp hd]; exact (N _ hx).2.2) (fun hL => (N _ hx).2.1 (List.mem_singleton.mp hL).symm)
section
variable {w : World} {A : Around} {s : Shared} {g : Heap} {L : Addr} {m : Str → Option Value} {news : List (Addr × Obj)} {E : Value → Shared → Prop} {mean : ExcName → Option Value} {mg mb : Str → Option Value}
theorem use_pat {q : Addr} {Q : Value → Shared → Prop} (X : KIn w g) (T : TopAt mean mg mb g) (F : Fr g L s.heap m) (N : News g L s.heap news) (hh : A.handled = none) (hd : A.depth ≤ 600) (hu : A.units ≤ 600)
    (k : ∀ p dp tk1 h' tk, Fr g L h' m → News g L h' ((p, instObj 54 dp) :: (dp, dictOf [ent w "node" tk1 (.ref q)] 1) :: news) → (∀ x ∈ news, @Ne Nat x.1 p) → (∀ x ∈ news, @Ne Nat x.1 dp) → Q (.ref p) { s with heap := h', toks := tk }) :
    wpAny (model prog0 w) A (call (.ref 54) [.ref q]) Q E s := by
  refine weaken 600 600 hh hd hu (wpAny_mono (pat_new X T F N) (fun v s' hr => ?_) fun _ _ x => x.elim)
  obtain ⟨p, dp, od, h', tk, rfl, rfl, F', N', ⟨t1, rfl⟩, q1, q2⟩ := hr
  exact k p dp t1 h' tk F' N' q1 q2
theorem use_item {r : ArrRec} {kl : Addr} {kk k0 : Int} {j c : Nat} {t u : Tok} {Q : Value → Shared → Prop} (X : KIn w g) (T : TopAt mean mg mb g) (F : Fr g L s.heap m) (N : News g L s.heap news) (hh : A.handled = none) (hd : A.depth ≤ 500) (hu : A.units ≤ 500)
    (ha : ArrF w news r k0) (hkl : (kl, PySem.W.listOf #[.int kk t] c) ∈ news) (hk : kk = (j : Int) + 1) (hj : j = 0 ∨ j = 1)
    (k : ∀ nm dn od h' tk, Fr g L h' m → News g L h' ((nm, instObj 117 dn) :: (dn, od) :: news) → NameDict w od r.a j → (∀ x ∈ news, @Ne Nat x.1 nm) → (∀ x ∈ news, @Ne Nat x.1 dn) → Q (.ref nm) { s with heap := h', toks := tk }) :
    wpAny (model prog0 w) A (call (.ref 295) [.ref r.a, .ref kl, .int 32 u]) Q E s := by
  obtain ⟨oa, ha1, a1, a2, a3, a4, a5, a6, a7, a8, a9, a10, rfl⟩ := ha.dict
  obtain ⟨nb, hb⟩ := ha.bnd
  obtain ⟨t1, t2, ht⟩ := ha.tup
  have hkk : kk = 1 ∨ kk = 2 := by omega
  refine weaken 500 500 hh hd hu (wpAny_mono (item_spec X T F.keep (N _ hb).2.2 (N _ ht).2.2 (N _ ha.inst).1 (N _ ha1).1 (N _ hb).1 (N _ ht).1 (N _ hkl).1 hkk) (fun v s' hr => ?_) fun _ _ x => x.elim)
  obtain ⟨nm, dn, od, h', tk, rfl, rfl, st, e1, e2, e3, e4, hd⟩ := hr
  have hj' : kk - 1 = (j : Int) := by omega
  rw [hj'] at hd
  refine k nm dn od h' tk (fr_stays F st) (fun p hp => ?_) hd (news_ne N e1) (news_ne N e2)
  rcases List.mem_cons.mp hp with rfl | hp
  · exact news_new F N st e1 e3 _ (.head _)
  · exact news_new F N st e2 e4 p hp
theorem use_slot {r : ArrRec} {nm dn : Addr} {od : Obj} {k0 : Int} {j c : Nat} {x0 x1 val : Value} {Q : Value → Shared → Prop} (X : KIn w g) (T : TopAt mean mg mb g) (F : Fr g L s.heap m) (N : News g L s.heap news) (hh : A.handled = none) (hd : A.depth ≤ 600) (hu : A.units ≤ 600)
    (ha : ArrF w news r k0) (hn1 : (nm, instObj 117 dn) ∈ news) (hn2 : (dn, od) ∈ news) (hnd : NameDict w od r.a j) (hil : (r.il, PySem.W.listOf #[x0, x1] c) ∈ news) (hj : j = 0 ∨ j = 1)
    (k : ∀ h' tk n, But [r.il] s.heap h' → h'.get? r.il = some (PySem.W.listOf (if j = 0 then [val, x1] else [x0, val]).toArray n) → Q .none { s with heap := h', toks := tk }) :
    wpAny (model prog0 w) A (call (.ref 302) [.ref nm, val]) Q E s := by
  obtain ⟨oa, ha1, ha2⟩ := ha.dict
  have f := fn_of N
  have hdl : ∀ {es : List DictEntry} {k : Nat} {o : Obj}, o = dictOf es k → o ≠ PySem.W.listOf #[x0, x1] c := by
    rintro es k o rfl; exact dict_list_ne
  have hda : oa ≠ PySem.W.listOf #[x0, x1] c := by obtain ⟨_, _, _, _, _, _, _, _, _, _, e⟩ := ha2; exact hdl e
  have hdn : od ≠ PySem.W.listOf #[x0, x1] c := by obtain ⟨_, _, _, _, _, e⟩ := hnd; exact hdl e
  refine weaken 600 600 hh hd hu (wpAny_mono (slot_spec (val := val) X T F.keep (N _ hil).2.2 (N _ hn1).1 (N _ hn2).1 hnd (N _ ha.inst).1 (N _ ha1).1 ha2 (N _ hil).1 hj (f.ne hn1 hil inst_list_ne) (f.ne hn2 hil hdn) (f.ne ha.inst hil inst_list_ne) (f.ne ha1 hil hda)) (fun v s' hr => ?_) fun _ _ x => x.elim)
  obtain ⟨h', tk, n, rfl, rfl, B, e⟩ := hr
  exact k h' tk n B e
theorem use_later {fd : Addr} {n bg en : Nat} {tn tb te : Tok} {f : Nat → Nat → Int} {D : List (PyData × PyData)} {Q : Value → Shared → Prop} (X : KIn w g) (T : TopAt mean mg mb g) (F : Fr g L s.heap m) (N : News g L s.heap news) (hh : A.handled = none) (hd : A.depth ≤ 320) (hu : A.units ≤ 320)
    (hf : FarAt prog0 w s.heap fd n f D) (hn : n ≤ 4) (hb : bg < n) (he : en < n) (hf0 : ∀ i j, 0 ≤ f i j ∧ f i j ≤ 99)
    (k : ∀ d h' tk nx D', Fr g L h' m → News g L h' (nx ++ news) → (∀ p ∈ nx, ∀ q ∈ news, q.1 ≠ p.1) → TupTab (intKind prog0 w) PyData.int nx d D' → D'.length ≤ 16 → (∀ a b : Nat, a < n → b < n → lookup (key2 a b) D' = some (.int (min (min 99 (f a b)) (f a bg + 1 + f en b)))) → Q (.ref d) { s with heap := h', toks := tk }) :
    wpAny (model prog0 w) A (call (.ref 385) [.ref fd, .int (n : Int) tn, .int (bg : Int) tb, .int (en : Int) te]) Q E s := by
  refine weaken 320 320 hh hd hu (wpAny_mono (later_spec (X.keeps F.keep) (T.keeps F.keep) hf hn hb he (fun i j => (hf0 i j).1) fun i j => (hf0 i j).2) (fun v s' hr => ?_) fun _ _ x => x.elim)
  obtain ⟨d, h', tk, nx, D', rfl, rfl, st, hnx, T', hl, hD⟩ := hr
  refine k d h' tk nx D' (fr_stays F st) (fun p hp => ?_) (fun p hp q hq e => ?_) T' hl hD
  · rcases List.mem_append.mp hp with hp | hp
    · refine ⟨(hnx p hp).1, fun e => ?_, ?_⟩
      · obtain ⟨oL, _, _, hL, _⟩ := F.ns
        have := (hnx p hp).2
        rw [e, hL] at this; cases this
      · cases q : g.get? p.1 with
        | none => rfl
        | some o => have := (hnx p hp).2; rw [F.keep _ _ q] at this; cases this
    · exact news_stays N st p hp
  · have h1 := (N q hq).1
    rw [e, (hnx p hp).2] at h1; cases h1
end
theorem set_links {w : World} {A : Around} {s : Shared} {g : Heap} {L lk ka : Addr} {i j : Int} {t u : Tok} {rest : List (Addr × Obj)} {D : List (PyData × PyData)} {Q : Unit → Shared → Prop} {E : Value → Shared → Prop} (hu : A.units + 1 < cLine)
    (N : News g L s.heap rest) (T : TupTab (intKind prog0 w) PyData.int rest lk D) (hka : (ka, tupOf [.int i t, .int j u]) ∈ rest) (hsz : D.length ≤ 100)
    (h : ∀ h' o' tk, But [lk] s.heap h' → h'.get? lk = some o' → TupTab (intKind prog0 w) PyData.int (setL lk o' rest) lk (putD (enc2 [i, j]) (.bool true) D) → Q () { s with heap := h', toks := tk }) :
    wpAny (model prog0 w) A (setItem (.ref lk) (.ref ka) (.bool true)) Q E s := by
  have tk : TupKeyObj (intKind prog0 w) [i, j] (tupOf [.int i t, .int j u]) := TupKeyObj.made (.cons (by simp [intKind, Value.isInt]) (.cons (by simp [intKind, Value.isInt]) .nil))
  obtain ⟨lo, o, es, ep, xs, hm, hc, hd, he, hn, hk, hf⟩ := T
  have hD : s.heap.DictOfH (tupleKind (intKind prog0 w)) lk xs := ⟨o, es, ep, N.get hm, hc, hd, he, fun x hx => let ⟨_, hmk, t⟩ := hk x hx; t.key (N.get hmk), hn⟩
  have hne : ∀ {b : Addr} {ob : Obj} {ks' : List Int}, (b, ob) ∈ rest → TupKeyObj (intKind prog0 w) ks' ob → b ≠ lk := by
    intro b ob ks' hb t e
    subst e
    obtain rfl : ob = o := Option.some.inj ((N.get hb).symm.trans (N.get hm))
    have h1 := t.1
    rw [hc.1] at h1
    injection h1 with h2
    exact absurd h2 (by decide)
  have hxs : xs.length ≤ sizeLine := by
    have e := hf.length
    simp only [kvsOf, List.length_map] at e
    rw [PySem.sizeLine_eq]
    omega
  refine wpAny_setItem_heap (hsz := hxs) (knd := tupleKind (intKind prog0 w)) (tupleKind_room_in1 hu) (tk.key (N.get hka)) hD fun h' hm' hs => ?_
  obtain ⟨o', es', ep', ho', hc', hd', he', _, hn'⟩ := hm'
  have keep : ∀ p ∈ rest, p.1 ≠ lk → p ∈ setL lk o' rest := fun p hp hpd => mem_setL hp hpd
  refine h h' o' _ (fun b ob hb e => hs.extBut b ob (fun q => hb (by simp [q])) e) ho'
    ⟨lo, o', es', ep', storedH xs [i, j] ka (.bool true), .head _, hc', hd', he', hn', fun x hx => ?_, by rw [kvsOf_storedH]; exact hf.stored (same_encTuple same_int) [i, j] (Flat.bool _)⟩
  rcases mem_storedH hx with ⟨y, hy, e1, e2⟩ | ⟨e1, e2⟩
  · obtain ⟨oky, hmk, t⟩ := hk y hy
    exact ⟨oky, by rw [e2]; exact keep _ hmk (hne hmk t), by rw [e1]; exact t⟩
  · exact ⟨_, by rw [e2]; exact keep _ hka (hne hka tk), by rw [e1]; exact tk⟩
end Mine
end
section
open PySem PySem.W PyProof.Rows PySem.Calls PySem.Spec PyProof.V
namespace Mine
theorem used_at {us : List Value} {n : Nat} {adj : Nat → List Nat} (h : IntsAre us ((List.range n).map fun i => ((adj i).length : Int))) {i : Nat} (hi : i < n) : ∃ t, us[i]? = some (.int ((adj i).length : Int) t) := by
  obtain ⟨h1, h2⟩ := ints_get h
  exact h2 i _ (by simp [hi])
def adjAdd (adj : Nat → List Nat) (bg en : Nat) : Nat → List Nat := fun i => if i = bg then adj i ++ [en] else adj i
structure Zf (w : World) (n : Nat) (al ul fd : Addr) (as : List ArrRec) (adj : Nat → List Nat) (f : Nat → Nat → Int) (us : List Value) (cu : Nat) (Z : List (Addr × Obj)) : Prop where
  hal : ∃ c, (al, PySem.W.listOf (as.map fun r => Value.ref r.a).toArray c) ∈ Z
  arr : ∀ (j : Nat) (r : ArrRec), as[j]? = some r → ArrF w Z r ((j : Int) + 1)
  used : (ul, PySem.W.listOf us.toArray cu) ∈ Z
  hints : ∀ i, i < n → ∃ t k, us[i]? = some (.int k t)
  len : us.length = n
  slots : ∀ (j : Nat) (r : ArrRec), as[j]? = some r → ∃ x0 x1 c, (r.il, PySem.W.listOf #[x0, x1] c) ∈ Z ∧ SlotSt w Z as (adj j) x0 x1
  far : ∃ D, TupTab (intKind prog0 w) PyData.int Z fd D ∧ D.length ≤ 16 ∧ ∀ a b : Nat, a < n → b < n → lookup (key2 a b) D = some (.int (f a b))
theorem Zf.more {w : World} {n : Nat} {al ul fd : Addr} {as : List ArrRec} {adj : Nat → List Nat} {f : Nat → Nat → Int} {us : List Value} {cu : Nat} {Z Z' : List (Addr × Obj)} (H : Zf w n al ul fd as adj f us cu Z) (hs : ∀ p ∈ Z, p ∈ Z') : Zf w n al ul fd as adj f us cu Z' := by
  obtain ⟨c, h1⟩ := H.hal
  exact ⟨⟨c, hs _ h1⟩, fun j r h => (H.arr j r h).more hs, hs _ H.used, H.hints, H.len, fun j r h => let ⟨x0, x1, c, a, b⟩ := H.slots j r h; ⟨x0, x1, c, hs _ a, b.more hs⟩, far_more H.far hs⟩
theorem Zf.setUl {w : World} {n : Nat} {al ul fd : Addr} {as : List ArrRec} {adj : Nat → List Nat} {f : Nat → Nat → Int} {us us' : List Value} {cu cu' : Nat} {Z : List (Addr × Obj)} (H : Zf w n al ul fd as adj f us cu Z) (fn : Fn Z) (hn : 3 ≤ n) (hasl : as.length = n) (hl : us'.length = n) (hi : ∀ i, i < n → ∃ t k, us'[i]? = some (.int k t)) :
    Zf w n al ul fd as adj f us' cu' (setL ul (PySem.W.listOf us'.toArray cu') Z) := by
  obtain ⟨c, h1⟩ := H.hal
  have hv : 2 ≤ us.toArray.size := by have := H.len; simp; omega
  refine ⟨⟨c, mem_setL h1 (fn.ne h1 H.used fun e => ?_)⟩, fun j r h => (H.arr j r h).set fn H.used hv, .head _, hi, hl, fun j r h => ?_, ?_⟩
  · have e1 := congrArg Obj.data e
    injection e1 with e1 _
    have e2 : as.map (fun r => Value.ref r.a) = us := by simpa using e1
    obtain ⟨t, k, h9⟩ := H.hints 0 (by omega)
    rw [← e2] at h9
    simp at h9
  · obtain ⟨x0, x1, c, a, b⟩ := H.slots j r h
    exact ⟨x0, x1, c, mem_setL a (fn.ne a H.used (list_size_ne (by have := H.len; show 2 ≠ _; simp; omega))), b.set fn H.used⟩
  · obtain ⟨D, a, b, c⟩ := H.far
    exact ⟨D, tab_set fn H.used a, b, c⟩
theorem Zf.setIl {w : World} {n bg en : Nat} {al ul fd : Addr} {as : List ArrRec} {rb re : ArrRec} {adj : Nat → List Nat} {f : Nat → Nat → Int} {us : List Value} {cu c c' : Nat} {x0 x1 val : Value} {Z : List (Addr × Obj)} (H : Zf w n al ul fd as adj f us cu Z) (fn : Fn Z) (hn : 3 ≤ n) (hasl : as.length = n) (hils : (as.map fun r => r.il).Nodup)
    (hrb : as[bg]? = some rb) (hil : (rb.il, PySem.W.listOf #[x0, x1] c) ∈ Z) (hst : SlotSt w Z as (adj bg) x0 x1) (hre : as[en]? = some re) (hval : SlotL w Z re val) (hlt : (adj bg).length < 2) :
    Zf w n al ul fd as (adjAdd adj bg en) f us cu (setL rb.il (PySem.W.listOf (if (adj bg).length = 0 then [val, x1] else [x0, val]).toArray c') Z) := by
  obtain ⟨ch, h1⟩ := H.hal
  have hv : 2 ≤ (#[x0, x1] : Array Value).size := Nat.le_refl _
  refine ⟨⟨ch, mem_setL h1 (fn.ne h1 hil (list_size_ne ?_))⟩, fun j r h => (H.arr j r h).set fn hil hv, mem_setL H.used (fn.ne H.used hil (list_size_ne ?_)), H.hints, H.len, fun j r h => ?_, ?_⟩
  · show _ ≠ 2; simp; omega
  · have := H.len; show _ ≠ 2; simp; omega
  · by_cases hj : j = bg
    · subst hj
      have e : r = rb := by rw [hrb] at h; exact (Option.some.inj h).symm
      subst e
      have hv' := hval.set (o' := PySem.W.listOf (if (adj j).length = 0 then [val, x1] else [x0, val]).toArray c') fn hil
      have hadd : adjAdd adj j en j = adj j ++ [en] := if_pos rfl
      rw [hadd]
      generalize hl : adj j = l at hst hlt hv' ⊢
      cases hst with
      | zero a b => exact ⟨val, x1, c', .head _, .one hre hv' b⟩
      | one a b cc =>
        exact ⟨x0, val, c', .head _, .two a hre (b.set fn hil) hv'⟩
      | two a b cc d => exact absurd hlt (by simp)
    · obtain ⟨y0, y1, cy, a, b⟩ := H.slots j r h
      have hadd : adjAdd adj bg en j = adj j := if_neg hj
      rw [hadd]
      refine ⟨y0, y1, cy, mem_setL a (fun e => hj ?_), b.set fn hil⟩
      have i1 : (as.map fun r => r.il)[j]? = some r.il := by simp [h]
      have i2 : (as.map fun r => r.il)[bg]? = some rb.il := by simp [hrb]
      have e' : r.il = rb.il := e
      rw [e'] at i1
      have hlj : j < (as.map fun r => r.il).length := (List.getElem?_eq_some_iff.mp i1).1
      exact (List.getElem?_inj hlj hils).mp (i1.trans i2.symm)
  · obtain ⟨D, a, b, c⟩ := H.far
    exact ⟨D, tab_set fn hil a, b, c⟩
theorem LinkL.le {w : World} {rest : List (Addr × Obj)} {lk : Addr} {n : Nat} {adj : Nat → List Nat} {k k' : Nat} (h : LinkL w rest lk n adj k) (hk : k ≤ k') : LinkL w rest lk n adj k' := by
  obtain ⟨D, a, b, c⟩ := h
  exact ⟨D, a, Nat.le_trans b hk, c⟩
theorem St.zf {w : World} {n : Nat} {al ul fd : Addr} {as : List ArrRec} {adj : Nat → List Nat} {f : Nat → Nat → Int} {Z : List (Addr × Obj)} (S : St w n al ul fd as adj f Z) : ∃ us cu, Zf w n al ul fd as adj f us cu Z ∧ IntsAre us ((List.range n).map fun i => ((adj i).length : Int)) := by
  obtain ⟨us, c, h1, h2⟩ := S.used
  exact ⟨us, c, ⟨S.hal, S.arr, h1, fun i hi => let ⟨t, e⟩ := used_at h2 hi; ⟨t, _, e⟩, by rw [(ints_get h2).1]; simp, S.slots, S.far⟩, h2⟩
theorem NameL.more {w : World} {Z Z' : List (Addr × Obj)} {nm a : Addr} (h : NameL w Z nm a) (hs : ∀ p ∈ Z, p ∈ Z') : NameL w Z' nm a := by
  obtain ⟨dn, od, h1, h2, h3⟩ := h
  exact ⟨dn, od, hs _ h1, hs _ h2, h3⟩
theorem NameL.set {w : World} {Z : List (Addr × Obj)} {nm a x : Addr} {o' : Obj} {vs : Array Value} {n : Nat} (f : Fn Z) (hx : (x, PySem.W.listOf vs n) ∈ Z) (h : NameL w Z nm a) : NameL w (setL x o' Z) nm a := by
  obtain ⟨dn, od, h1, h2, h3⟩ := h
  refine ⟨dn, od, mem_setL h1 (f.ne h1 hx inst_list_ne), mem_setL h2 (f.ne h2 hx ?_), h3⟩
  obtain ⟨_, _, _, _, _, rfl⟩ := h3
  exact dict_list_ne
structure BK (w : World) (g : Heap) (L b sc al lk ul fd : Addr) (bo so : Obj) (n : Nat) (as : List ArrRec) (adj adj' : Nat → List Nat) (f : Nat → Nat → Int) (us : List Value) (cu k : Nat) (own rest Z : List (Addr × Obj)) (h : Heap) : Prop where
  N : News g L h ((b, bo) :: (sc, so) :: rest)
  off : ∀ p ∈ rest, p.1 ≠ b ∧ p.1 ≠ sc
  hZ : ∀ p ∈ Z, p ∈ rest ∧ p.1 ≠ lk
  hown : ∀ q ∈ own, q ∈ rest
  hcl : ∀ q ∈ own, q.2.cls = .type "range_iterator"
  zf : Zf w n al ul fd as adj f us cu Z
  K : LinkL w rest lk n adj' k
  hn : 3 ≤ n
  asl : as.length = n
  ils : (as.map fun r => r.il).Nodup
section
variable {w : World} {g h h' : Heap} {L b sc al lk ul fd : Addr} {bo so : Obj} {n : Nat} {as : List ArrRec} {adj adj' : Nat → List Nat} {f : Nat → Nat → Int} {us : List Value} {cu k : Nat} {own rest Z : List (Addr × Obj)}
theorem BK.fnr (H : BK w g L b sc al lk ul fd bo so n as adj adj' f us cu k own rest Z h) : Fn rest := fn_of (news_sub H.N fun p hp => .tail _ (.tail _ hp))
theorem BK.fnZ (H : BK w g L b sc al lk ul fd bo so n as adj adj' f us cu k own rest Z h) : Fn Z := H.fnr.sub fun p hp => (H.hZ p hp).1
theorem BK.NZ (H : BK w g L b sc al lk ul fd bo so n as adj adj' f us cu k own rest Z h) : News g L h Z := news_sub H.N fun p hp => .tail _ (.tail _ (H.hZ p hp).1)
theorem BK.NR (H : BK w g L b sc al lk ul fd bo so n as adj adj' f us cu k own rest Z h) : News g L h rest := news_sub H.N fun p hp => .tail _ (.tail _ hp)
theorem BK.list (H : BK w g L b sc al lk ul fd bo so n as adj adj' f us cu k own rest Z h) {x : Addr} {vs : Array Value} {c : Nat} {o' : Obj} (hx : (x, PySem.W.listOf vs c) ∈ Z) (B : But [x] h h') (e : h'.get? x = some o') :
    News g L h' ((b, bo) :: (sc, so) :: setL x o' rest) ∧ (∀ p ∈ setL x o' rest, p.1 ≠ b ∧ p.1 ≠ sc) ∧ (∀ p ∈ setL x o' Z, p ∈ setL x o' rest ∧ p.1 ≠ lk) ∧ (∀ q ∈ own, q ∈ setL x o' rest) ∧ LinkL w (setL x o' rest) lk n adj' k := by
  have hr := (H.hZ _ hx).1
  refine ⟨news_setL (pre := [(b, bo), (sc, so)]) B H.N hr (List.forall_mem_cons.2 ⟨Ne.symm (H.off _ hr).1, List.forall_mem_cons.2 ⟨Ne.symm (H.off _ hr).2, fun p hp => nomatch hp⟩⟩) e, fun p hp => ?_, fun p hp => ?_, fun q hq => ?_, H.K.set H.fnr hr⟩
  · rcases of_setL hp with rfl | ⟨h1, _⟩
    · exact H.off (x, PySem.W.listOf vs c) hr
    · exact H.off p h1
  · rcases of_setL hp with rfl | ⟨h1, h2⟩
    · exact ⟨.head _, (H.hZ (x, PySem.W.listOf vs c) hx).2⟩
    · exact ⟨mem_setL (H.hZ p h1).1 h2, (H.hZ p h1).2⟩
  · refine mem_setL (H.hown q hq) (H.fnr.ne (H.hown q hq) hr fun e9 => ?_)
    have h1 := H.hcl q hq
    have e9' : q.2 = PySem.W.listOf vs c := e9
    rw [e9'] at h1
    injection h1 with h1
    exact absurd h1 (by decide)
theorem BK.setUl (H : BK w g L b sc al lk ul fd bo so n as adj adj' f us cu k own rest Z h) {us' : List Value} (B : But [ul] h h') (e : h'.get? ul = some (PySem.W.listOf us'.toArray cu)) (hl : us'.length = n) (hi : ∀ i, i < n → ∃ t k, us'[i]? = some (.int k t)) :
    ∃ rest' Z', BK w g L b sc al lk ul fd bo so n as adj adj' f us' cu k own rest' Z' h' ∧ (∀ {nm a : Addr}, NameL w Z nm a → NameL w Z' nm a) := by
  obtain ⟨a1, a2, a3, a4, a5⟩ := H.list H.zf.used B e
  exact ⟨_, _, ⟨a1, a2, a3, a4, H.hcl, H.zf.setUl H.fnZ H.hn H.asl hl hi, a5, H.hn, H.asl, H.ils⟩, fun h => h.set H.fnZ H.zf.used⟩
theorem BK.setIl (H : BK w g L b sc al lk ul fd bo so n as adj adj' f us cu k own rest Z h) {bg en c c' : Nat} {rb re : ArrRec} {x0 x1 val : Value} (hrb : as[bg]? = some rb) (hil : (rb.il, PySem.W.listOf #[x0, x1] c) ∈ Z) (hst : SlotSt w Z as (adj bg) x0 x1) (hre : as[en]? = some re) (hval : SlotL w Z re val) (hlt : (adj bg).length < 2)
    (B : But [rb.il] h h') (e : h'.get? rb.il = some (PySem.W.listOf (if (adj bg).length = 0 then [val, x1] else [x0, val]).toArray c')) :
    ∃ rest' Z', BK w g L b sc al lk ul fd bo so n as (adjAdd adj bg en) adj' f us cu k own rest' Z' h' := by
  obtain ⟨a1, a2, a3, a4, a5⟩ := H.list hil B e
  exact ⟨_, _, ⟨a1, a2, a3, a4, H.hcl, H.zf.setIl H.fnZ H.hn H.asl H.ils hrb hil hst hre hval hlt, a5, H.hn, H.asl, H.ils⟩⟩
theorem BK.lk_mem (H : BK w g L b sc al lk ul fd bo so n as adj adj' f us cu k own rest Z h) : ∃ ol, (lk, ol) ∈ rest ∧ ol.cls = .type "dict" := by
  obtain ⟨D, ⟨_, o, _, _, _, h1, hc, _⟩, _⟩ := H.K
  exact ⟨o, h1, hc.1⟩
theorem BK.new (H : BK w g L b sc al lk ul fd bo so n as adj adj' f us cu k own rest Z h) {nx : List (Addr × Obj)} (N' : News g L h' (nx ++ ((b, bo) :: (sc, so) :: rest))) (hn : ∀ p ∈ nx, ∀ q ∈ (b, bo) :: (sc, so) :: rest, q.1 ≠ p.1) :
    BK w g L b sc al lk ul fd bo so n as adj adj' f us cu k own (nx ++ rest) (nx ++ Z) h' := by
  obtain ⟨ol, hol, _⟩ := H.lk_mem
  refine ⟨news_sub N' fun p hp => ?_, fun p hp => ?_, fun p hp => ?_, fun q hq => List.mem_append.mpr (.inr (H.hown q hq)), H.hcl, H.zf.more fun p hp => List.mem_append.mpr (.inr hp), H.K.more fun p hp => List.mem_append.mpr (.inr hp), H.hn, H.asl, H.ils⟩
  · rcases List.mem_cons.mp hp with rfl | hp
    · exact List.mem_append.mpr (.inr (.head _))
    rcases List.mem_cons.mp hp with rfl | hp
    · exact List.mem_append.mpr (.inr (.tail _ (.head _)))
    rcases List.mem_append.mp hp with hp | hp
    · exact List.mem_append.mpr (.inl hp)
    · exact List.mem_append.mpr (.inr (.tail _ (.tail _ hp)))
  · rcases List.mem_append.mp hp with hp | hp
    · exact ⟨Ne.symm (hn p hp _ (.head _)), Ne.symm (hn p hp _ (.tail _ (.head _)))⟩
    · exact H.off p hp
  · rcases List.mem_append.mp hp with hp | hp
    · exact ⟨List.mem_append.mpr (.inl hp), Ne.symm (hn p hp _ (.tail _ (.tail _ hol)))⟩
    · exact ⟨List.mem_append.mpr (.inr (H.hZ p hp).1), (H.hZ p hp).2⟩
end
end Mine
end
section
open PySem PySem.W PyProof.Rows PySem.Calls PySem.Spec PyProof.V
namespace Mine
theorem lt_base {b sc d : Addr} {bo so : Obj} {rest : List (Addr × Obj)} (hb : @LT.lt Nat _ b d) (hs : @LT.lt Nat _ sc d) (hr : AllLt d rest) : ∀ q ∈ (b, bo) :: (sc, so) :: rest, q.1 ≠ d := by
  intro q hq
  rcases List.mem_cons.mp hq with rfl | hq
  · exact Nat.ne_of_lt hb
  rcases List.mem_cons.mp hq with rfl | hq
  · exact Nat.ne_of_lt hs
  · exact Nat.ne_of_lt (allLt_mem hr q hq)
theorem pat_slot {w : World} {Z : List (Addr × Obj)} {re : ArrRec} {p dp q q1 q2 nm : Addr} {tk t2 t3 t4 : Tok} (hnm : NameL w Z nm re.a) (h1 : (p, instObj 54 dp) ∈ Z) (h2 : (dp, dictOf [ent w "node" tk (.ref q)] 1) ∈ Z) (h3 : (q, tupOf [.str (Str.ofString "cat") t2, .ref q1, .ref q2]) ∈ Z) (h4 : (q1, tupOf [.str (Str.ofString "cursor") t3, .ref nm]) ∈ Z) (h5 : (q2, tupOf [.str (Str.ofString "arb") t4]) ∈ Z) : SlotL w Z re (.ref p) := by
  obtain ⟨dn, od, a, b, c⟩ := hnm
  exact .pat h1 h2 h3 h4 h5 a b c
theorem BK.at {w : World} {g h h' : Heap} {L b sc al lk ul fd : Addr} {bo so : Obj} {n : Nat} {as : List ArrRec} {adj adj' : Nat → List Nat} {f : Nat → Nat → Int} {us : List Value} {cu k : Nat} {own rest Z : List (Addr × Obj)} (H : BK w g L b sc al lk ul fd bo so n as adj adj' f us cu k own rest Z h) (N' : News g L h' ((b, bo) :: (sc, so) :: rest)) : BK w g L b sc al lk ul fd bo so n as adj adj' f us cu k own rest Z h' :=
  ⟨N', H.off, H.hZ, H.hown, H.hcl, H.zf, H.K, H.hn, H.asl, H.ils⟩
theorem ints_of {us : List Value} {n : Nat} {ks : Nat → Int} (hl : us.length = n) (h : ∀ i, i < n → ∃ t, us[i]? = some (.int (ks i) t)) : IntsAre us ((List.range n).map ks) := by
  have key : ∀ (l : List Value) (k : Nat), (∀ i, i < l.length → ∃ t, l[i]? = some (.int (ks (k + i)) t)) → IntsAre l ((List.range' k l.length).map ks) := by
    intro l
    induction l with
    | nil => intro k _; exact .nil
    | cons v r ih =>
      intro k hk
      obtain ⟨t, e⟩ := hk 0 (by simp)
      simp only [List.getElem?_cons_zero, Option.some.injEq, Nat.add_zero] at e
      subst e
      rw [List.length_cons, List.range'_succ, List.map_cons]
      refine .cons _ _ (ih (k + 1) fun i hi => ?_)
      obtain ⟨t', e'⟩ := hk (i + 1) (by simp; omega)
      exact ⟨t', by rw [List.getElem?_cons_succ] at e'; rw [e', show k + (i + 1) = k + 1 + i by omega]⟩
  have := key us 0 (fun i hi => by rw [Nat.zero_add]; exact h i (by omega))
  rw [hl, ← List.range_eq_range'] at this
  exact this
theorem BK.setLk {w : World} {g h h' : Heap} {L b sc al lk ul fd : Addr} {bo so : Obj} {n : Nat} {as : List ArrRec} {adj adj' adj2 : Nat → List Nat} {f : Nat → Nat → Int} {us : List Value} {cu k : Nat} {own rest Z : List (Addr × Obj)} (H : BK w g L b sc al lk ul fd bo so n as adj adj' f us cu k own rest Z h) {o' : Obj} {D : List (PyData × PyData)} {bg en : Nat} (B : But [lk] h h') (e : h'.get? lk = some o')
    (T : TupTab (intKind prog0 w) PyData.int (setL lk o' rest) lk (putD (enc2 [(bg : Int) + 1, (en : Int) + 1]) (.bool true) D)) (hl : D.length ≤ k) (hD : ∀ i j : Nat, j ∈ adj' i → i < n → (lookup (enc2 [(i : Int) + 1, (j : Int) + 1]) D).isSome = true) (hadj : ∀ i j, j ∈ adj2 i → j ∈ adj' i ∨ (i = bg ∧ j = en)) :
    BK w g L b sc al lk ul fd bo so n as adj adj2 f us cu (k + 1) own (setL lk o' rest) Z h' := by
  obtain ⟨ol, hol, hc⟩ := H.lk_mem
  refine ⟨news_setL (pre := [(b, bo), (sc, so)]) B H.N hol (List.forall_mem_cons.2 ⟨Ne.symm (H.off _ hol).1, List.forall_mem_cons.2 ⟨Ne.symm (H.off _ hol).2, fun p hp => nomatch hp⟩⟩) e, fun p hp => ?_, fun p hp => ⟨mem_setL (H.hZ p hp).1 (H.hZ p hp).2, (H.hZ p hp).2⟩, fun q hq => ?_, H.hcl, H.zf, ⟨_, T, Nat.le_trans (put_len _ _ _) (Nat.succ_le_succ hl), fun i j hj hi => ?_⟩, H.hn, H.asl, H.ils⟩
  · rcases of_setL hp with rfl | ⟨h1, _⟩
    · exact H.off (lk, ol) hol
    · exact H.off p h1
  · refine mem_setL (H.hown q hq) (H.fnr.ne (H.hown q hq) hol fun e9 => ?_)
    have h1 := H.hcl q hq
    have e9' : q.2 = ol := e9
    rw [e9', hc] at h1
    injection h1 with h1
    exact absurd h1 (by decide)
  · by_cases hk : i = bg ∧ j = en
    · obtain ⟨rfl, rfl⟩ := hk
      rw [lookup_putK_same (keyEnc_tuple keyEnc_int) [(i : Int) + 1, (j : Int) + 1] (.bool true) D]
      rfl
    · rw [lookup_putK_other (keyEnc_tuple keyEnc_int) (n := [(bg : Int) + 1, (en : Int) + 1]) (k := [(i : Int) + 1, (j : Int) + 1]) (by simp; omega) (.bool true) D]
      rcases hadj i j hj with h | h
      · exact hD i j h hi
      · exact absurd h hk
theorem BK.far' {w : World} {g h : Heap} {L b sc al lk ul fd d : Addr} {bo so : Obj} {n : Nat} {as : List ArrRec} {adj adj' : Nat → List Nat} {f f' : Nat → Nat → Int} {us : List Value} {cu k : Nat} {own rest Z nx : List (Addr × Obj)} {D' : List (PyData × PyData)} (H : BK w g L b sc al lk ul fd bo so n as adj adj' f us cu k own (nx ++ rest) (nx ++ Z) h)
    (T : TupTab (intKind prog0 w) PyData.int nx d D') (hl : D'.length ≤ 16) (hD : ∀ a b : Nat, a < n → b < n → lookup (key2 a b) D' = some (.int (f' a b))) : BK w g L b sc al lk ul d bo so n as adj adj' f' us cu k own (nx ++ rest) (nx ++ Z) h :=
  ⟨H.N, H.off, H.hZ, H.hown, H.hcl, ⟨H.zf.hal, H.zf.arr, H.zf.used, H.zf.hints, H.zf.len, H.zf.slots, ⟨D', tab_sub T fun p hp => List.mem_append.mpr (.inl hp), hl, hD⟩⟩, H.K, H.hn, H.asl, H.ils⟩
theorem adjAdd_out {n : Nat} {adj : Nat → List Nat} {bg en : Nat} (h : ∀ i, i < n → ∀ j ∈ adj i, j < n) (he : en < n) : ∀ i, i < n → ∀ j ∈ adjAdd adj bg en i, j < n := by
  intro i hi j hj
  unfold adjAdd at hj
  split at hj
  · rcases List.mem_append.mp hj with hj | hj
    · exact h i hi j hj
    · rw [List.mem_singleton.mp hj]; exact he
  · exact h i hi j hj
section
local macro_rules | `(tactic| k_all) => `(tactic| assumption)
inductive P_turn_t2 (s0 : Shared) (w : World) (g : Heap) (L : Addr) (l : Addr) (b : Addr) (sc : Addr) (al : Addr) (lk : Addr) (ul : Addr) (n : Nat) (tm : Tok) (as : List ArrRec) (c : Int) (k : Nat) (own : List (Addr × Obj)) (bg : Nat) (en : Nat) (fo : Nat) (t1 : Tok) (t2 : Tok) (t3 : Tok) (nm : Addr) (vt : Option Value) (vs : Option Value) (vo : Option Value) (vp : Option Value) (vl : Option Value) (s' : Shared) : Prop
  | mk (fd : Addr) (adj : Nat → List Nat) (f : Nat → Nat → Int) (vv : Option Value) (n0 n1 : Nat) (tc : Tok) (items : List Value) (ns : List Int) (rest Z : List (Addr × Obj)) (e1 : TS s0 w g L b sc al lk ul fd n as adj f c (k + 1) own (LM l b al lk ul n tm fd vt (some (.int (bg : Int) t1)) (some (.int (en : Int) t2)) (some (.int (fo : Int) t3)) (some (.ref nm)) vv vs vo vp vl) tc n0 n1 items ns rest Z s') : P_turn_t2 s0 w g L l b sc al lk ul n tm as c k own bg en fo t1 t2 t3 nm vt vs vo vp vl s'
theorem turn_t2 {s0 : Shared} {w : World} {s : Shared} {g : Heap} {fa L l b sc al lk ul fd : Addr} {cv : Value} {n : Nat} {tm : Tok} {as : List ArrRec} {adj : Nat → List Nat} {f : Nat → Nat → Int} {c : Int} {k : Nat} {own : List (Addr × Obj)} {tc : Tok} {n0 n1 : Nat} {items : List Value} {ns : List Int} {rest Z : List (Addr × Obj)} {bg en fo : Nat} {t1 t2 t3 : Tok} {nm : Addr} {re : ArrRec} {vt vv vs vo vp vl : Option Value} {mean : ExcName → Option Value} {mg mb : Str → Option Value}
    (X : (Mine.hd.heap_1 w.params).In g) (T : Top Mine.view (looseW Mine.view [Str.ofString "SnobolError"]) mean mg mb g)
    (H : TS s0 w g L b sc al lk ul fd n as adj f c k own (LM l b al lk ul n tm fd vt (some (.int (bg : Int) t1)) (some (.int (en : Int) t2)) (some (.int (fo : Int) t3)) (some (.ref nm)) vv vs vo vp vl) tc n0 n1 items ns rest Z s)
    (hbg : bg < n) (hen : en < n) (hfo : fo < 3) (hre : as[en]? = some re) (hnm : NameL w Z nm re.a) (hk : k ≤ 50) (hcl : ∀ q ∈ own, q.2.cls = .type "range_iterator") :
    wpAny (model PySem.Challenge.rw_sj0194_01.row.prog w) ((AA 310 200).deeper (lawEnv L fa cv)) (exec (tS 2) (lawEnv L fa cv)) (NextP (P_turn_t2 s0 w g L l b sc al lk ul n tm as c k own bg en fo t1 t2 t3 nm vt vs vo vp vl)) (fun _ _ => False) s := by
  dsimp only [lawEnv, tS, lawTurn, lawS, lawBody, lawScope, lawP, mkLaw, gz, gs]
  revert T X; k_fill; intro X T
  k_with_none
  w_top off
  k_with "call ref" => refine Mine.stop ?_
  k_with "subscriptTail Name Name ref int" => refine Mine.stop ?_
  k_with "setItem ref int" => refine Mine.stop ?_
  k_with "setItem ref ref" => refine Mine.stop ?_
  k_with "subscriptTail List Name ref int" => refine Mine.stop ?_
  k_whole
  (try k_fold)
  obtain ⟨F', N', hbs, off, hZ, hown, hI, hlen, S, K, sm⟩ := H
  have hn4 : n ≤ 4 := by have := S.hn; omega
  have hn3 : 3 ≤ n := by have := S.hn; omega
  obtain ⟨rb, hrb⟩ := S.rec_ hbg
  obtain ⟨cal, hal⟩ := S.hal
  obtain ⟨us, cu, hus, hus2⟩ := S.used
  obtain ⟨tu, htu⟩ := used_at hus2 hbg
  have husl : us.length = n := by rw [(ints_get hus2).1]; simp
  k_steps
  change wpAny _ _ _ _ _ _
  refine item1 (k := (bg : Int)) (v := .int ((adj bg).length : Int) tu) N' (.tail _ (.tail _ (hZ _ hus).1)) (by omega) (by omega) (by simpa using htu) ?_
  k_steps
  case refine_2 =>
    exact nextP ⟨fd, adj, f, vv, n0, n1, tc, items, ns, rest, Z, ⟨F', N', hbs, off, hZ, hown, hI, hlen, S, K.le (Nat.le_succ _), sm⟩⟩
  have hlt2 : (adj bg).length < 2 := by omega
  change wpAny _ _ _ _ _ _
  refine item1 (k := (bg : Int)) (v := .int ((adj bg).length : Int) tu) N' (.tail _ (.tail _ (hZ _ hus).1)) (by omega) (by omega) (by simpa using htu) ?_
  k_steps
  change wpAny _ _ _ _ _ _
  refine set_at (i := bg) (N' _ (.tail _ (.tail _ (hZ _ hus).1))).1 rfl (by omega) (by omega) ?_
  intro h1 B1 e1
  have F1 := but_fr B1 F' N' (.tail _ (.tail _ (hZ _ hus).1))
  have H0 : BK w g L b sc al lk ul fd (PySem.W.listOf [.ref sc, .int c tc].toArray n0) (PySem.W.listOf items.toArray n1) n as adj adj f us cu k own rest Z s.heap := ⟨N', off, hZ, hown, hcl, ⟨S.hal, S.arr, hus, fun i hi => let ⟨t, e⟩ := used_at hus2 hi; ⟨t, _, e⟩, husl, S.slots, S.far⟩, K, hn3, S.asl, S.ils⟩
  generalize hbo : PySem.W.listOf [.ref sc, .int c tc].toArray n0 = bo at N' H0
  generalize hso : PySem.W.listOf items.toArray n1 = so at N' H0
  generalize hus' : us.set bg _ = us' at e1
  have husl' : us'.length = n := by rw [← hus']; simp [husl]
  have hui : ∀ i, i < n → ∃ t k, us'[i]? = some (.int k t) := by
    intro i hi
    rw [← hus']
    by_cases h : bg = i
    · subst h
      exact ⟨_, _, by rw [List.getElem?_set_self (by omega)]⟩
    · obtain ⟨t, e⟩ := used_at hus2 hi
      exact ⟨t, _, by rw [List.getElem?_set_ne h]; exact e⟩
  have hub : ∃ t, us'[bg]? = some (.int ((adj bg).length + 1 : Int) t) := by
    rw [← hus']; exact ⟨_, by rw [List.getElem?_set_self (by omega)]⟩
  have hus3 : IntsAre us' ((List.range n).map fun i => ((adjAdd adj bg en i).length : Int)) := by
    refine ints_of husl' fun i hi => ?_
    by_cases h : i = bg
    · subst h
      obtain ⟨t, e⟩ := hub
      exact ⟨t, by rw [e]; simp [adjAdd]⟩
    · obtain ⟨t, e⟩ := used_at hus2 hi
      exact ⟨t, by rw [← hus', List.getElem?_set_ne (Ne.symm h), e]; simp [adjAdd, h]⟩
  obtain ⟨tub, hub⟩ := hub
  have hdist := S.dist
  have hfb := S.fb
  have hout := S.out
  obtain ⟨rest1, Z1, H1, hnm1⟩ := H0.setUl B1 e1 husl' hui
  replace hnm1 := hnm1 hnm
  have N1 := H1.N
  clear F' N' hnm
  k_steps
  change wpAny _ _ _ _ _ _
  obtain ⟨cal1, hal1⟩ := H1.zf.hal
  refine item1 (k := (en : Int)) (v := .ref re.a) N1 (.tail _ (.tail _ (H1.hZ _ hal1).1)) (by omega) (by omega) (by simp [hre]) ?_
  have hnn := S.hn
  clear off hZ hown S K hal hus hus2 htu B1 hus' e1 hui H0
  k_steps
  change wpAny _ _ _ _ _ _
  rename Fr _ _ _ _ => F2
  rename News _ _ _ _ => N2
  refine use_pat X T F2 N2 rfl (Nat.le_of_ble_eq_true rfl) (Nat.le_of_ble_eq_true rfl) ?_
  rintro pt dp tkp h2 tk2 F3 N3 qp1 qp2
  rename _ ∧ _ ∧ AllLt _ _ => la
  rename _ ∧ _ ∧ _ ∧ AllLt _ _ => lb
  rename _ ∧ _ ∧ _ ∧ _ ∧ AllLt _ _ => lc
  have H2 := H1.new (nx := [_, _, _, _, _]) N3 (List.forall_mem_cons.2 ⟨fun q hq => qp1 q (.tail _ (.tail _ (.tail _ hq))), List.forall_mem_cons.2 ⟨fun q hq => qp2 q (.tail _ (.tail _ (.tail _ hq))), List.forall_mem_cons.2 ⟨lt_base lc.2.2.1 lc.2.2.2.1 lc.2.2.2.2, List.forall_mem_cons.2 ⟨lt_base lb.2.1 lb.2.2.1 lb.2.2.2, List.forall_mem_cons.2 ⟨lt_base la.1 la.2.1 la.2.2, fun p hp => nomatch hp⟩⟩⟩⟩⟩)
  have hZ2 : ∃ rest2 Z2, BK w g L b sc al lk ul fd bo so n as adj adj f us' cu k own rest2 Z2 h2 ∧ NameL w Z2 nm re.a ∧ SlotL w Z2 re (.ref pt) :=
    ⟨_, _, H2, hnm1.more fun p hp => List.mem_append.mpr (.inr hp), pat_slot (hnm1.more fun p hp => List.mem_append.mpr (.inr hp)) (.head _) (.tail _ (.head _)) (.tail _ (.tail _ (.head _))) (.tail _ (.tail _ (.tail _ (.tail _ (.head _))))) (.tail _ (.tail _ (.tail _ (.head _))))⟩
  clear H2 H1 hnm1 N3 la lb lc qp1 qp2 hal1
  obtain ⟨rest2, Z2, H2, hnm2, hpat⟩ := hZ2
  have N3 := H2.N
  clear F2 N2
  k_steps
  change wpAny _ _ _ _ _ _
  rename Fr _ _ _ _ => F2
  rename News _ _ _ _ => N2
  have hval : ∃ v, ([.ref re.a, .ref nm, .ref pt] : List Value)[fo]? = some v ∧ SlotL w Z2 re v := by
    obtain ⟨dn, od, a1, a2, a3⟩ := hnm2
    rcases fo with _ | _ | _ | fo
    · exact ⟨_, rfl, .arr⟩
    · exact ⟨_, rfl, .name a1 a2 a3⟩
    · exact ⟨_, rfl, hpat⟩
    · omega
  obtain ⟨val, hv1, hv2⟩ := hval
  refine item1 (k := (fo : Int)) (v := val) (vs := [.ref re.a, .ref nm, .ref pt]) N2 (.head _) (by omega) (by omega) (by simpa using hv1) ?_
  replace H2 := H2.at (news_sub N2 fun p hp => .tail _ hp)
  have N3 := H2.N
  clear N2 hnm2 hpat hv1
  k_steps
  change wpAny _ _ _ _ _ _
  rename Fr _ _ _ _ => F2
  rename News _ _ _ _ => N2
  obtain ⟨cal2, hal2⟩ := H2.zf.hal
  refine item1 (k := (bg : Int)) (v := .ref rb.a) N2 (.tail _ (.tail _ (H2.hZ _ hal2).1)) (by omega) (by omega) (by simp [hrb]) ?_
  k_steps
  change wpAny _ _ _ _ _ _
  refine item1 (k := (bg : Int)) (v := .int ((adj bg).length + 1 : Int) tub) N2 (.tail _ (.tail _ (H2.hZ _ H2.zf.used).1)) (by omega) (by omega) (by simpa using hub) ?_
  replace H2 := H2.at N2
  k_steps
  change wpAny _ _ _ _ _ _
  rename Fr _ _ _ _ => F3
  rename News _ _ _ _ => N3
  refine use_item (r := rb) (j := (adj bg).length) (k0 := (bg : Int) + 1) X T F3 N3 rfl (Nat.le_of_ble_eq_true rfl) (Nat.le_of_ble_eq_true rfl) ((H2.zf.arr bg rb hrb).more fun p hp => .tail _ (.tail _ (.tail _ (H2.hZ p hp).1))) (.head _) rfl (by omega) ?_
  rintro nm3 dn3 od3 h3 tk3 F4 N4 hnd3 qn1 qn2
  k_steps
  change wpAny _ _ _ _ _ _
  obtain ⟨x0, x1, cil, hil, hst⟩ := H2.zf.slots bg rb hrb
  refine use_slot (r := rb) (x0 := x0) (x1 := x1) (c := cil) (j := (adj bg).length) (k0 := (bg : Int) + 1) X T F4 N4 rfl (Nat.le_of_ble_eq_true rfl) (Nat.le_of_ble_eq_true rfl) ((H2.zf.arr bg rb hrb).more fun p hp => .tail _ (.tail _ (.tail _ (.tail _ (.tail _ (H2.hZ p hp).1))))) (.head _) (.tail _ (.head _)) hnd3 (.tail _ (.tail _ (.tail _ (.tail _ (.tail _ (H2.hZ _ hil).1))))) (by omega) ?_
  intro h4 tk4 c4 B4 e4
  have F5 := but_fr B4 F4 N4 (.tail _ (.tail _ (.tail _ (.tail _ (.tail _ (H2.hZ _ hil).1)))))
  have H3 := H2.at (news_sub N4 fun p hp => .tail _ (.tail _ (.tail _ hp)))
  obtain ⟨rest4, Z4, H4⟩ := H3.setIl hrb hil hst hre hv2 hlt2 B4 e4
  have N5 := H4.N
  clear H2 H3 hst hil hv2 qn1 qn2
  (try clear N4); (try clear N3); (try clear N2); (try clear F4); (try clear F3); (try clear F2)
  k_steps
  change wpAny _ _ _ _ _ _
  rename Fr _ _ _ _ => F6
  rename News _ _ _ _ => N6
  rename _ ∧ _ ∧ AllLt _ _ => ld
  have H5 := H4.new (nx := [_]) N6 (List.forall_mem_cons.2 ⟨lt_base ld.1 ld.2.1 ld.2.2, fun p hp => nomatch hp⟩)
  obtain ⟨Dk, hDk1, hDk2, hDk3⟩ := id H5.K
  refine set_links (Nat.le_of_ble_eq_true rfl) H5.NR hDk1 (.head _) (by omega) ?_
  intro h7 o7 tk7 B7 e7 T7
  have hlkm := H5.lk_mem
  obtain ⟨olk, hlkm, hlkc⟩ := hlkm
  have F7 := but_fr B7 F6 H5.NR hlkm
  have H7 := H5.setLk (adj2 := adjAdd adj bg en) B7 e7 T7 hDk2 hDk3 (fun i j hj => by
    unfold adjAdd at hj
    by_cases h : i = bg
    · rw [if_pos h] at hj
      rcases List.mem_append.mp hj with hj | hj
      · exact .inl hj
      · exact .inr ⟨h, List.mem_singleton.mp hj⟩
    · rw [if_neg h] at hj; exact .inl hj)
  clear H5 H4 N6 F6 hDk1 hDk3 T7 hlkm hlkc ld
  generalize setL lk o7 _ = rest7 at H7
  generalize hZ7 : [_] ++ Z4 = Z7 at H7
  have N7 := H7.N
  k_steps
  change wpAny _ _ _ _ _ _
  obtain ⟨Df, hDf1, hDf2, hDf3⟩ := H7.zf.far
  refine use_later X T F7 N7 rfl (Nat.le_of_ble_eq_true rfl) (Nat.le_of_ble_eq_true rfl) (D := Df) ⟨hDf1.at H7.NZ, hDf3⟩ hn4 hbg hen hfb ?_
  intro d8 h8 tk8 nx8 D8 F8 N8 hn8 T8 hl8 hD8
  have H8 := (H7.new N8 hn8).far' T8 hl8 hD8
  have N9 := H8.N
  clear N7 N8 H7 hn8 T8 hD8
  generalize nx8 ++ rest7 = rest8 at H8 N9
  generalize nx8 ++ Z7 = Z8 at H8
  k_steps
  rename Fr _ _ _ _ => F9
  rename News _ _ _ _ => N10
  have F10 : Fr g L _ (fun y => if y = Str.ofString "far" then some (.ref d8) else (fun y => if y = Str.ofString "value" then some val else LM l b al lk ul n tm fd vt (some (.int (bg : Int) t1)) (some (.int (en : Int) t2)) (some (.int (fo : Int) t3)) (some (.ref nm)) vv vs vo vp vl y) y) := F9
  rw [LM_value] at F10
  rw [LM_far] at F10
  replace H8 := H8.at N10
  have G0 : Graph4 n adj := ⟨hn4, hout⟩
  have G1 : Graph4 n (adjAdd adj bg en) := ⟨hn4, adjAdd_out hout hen⟩
  subst hbo hso
  refine nextP ⟨d8, adjAdd adj bg en, _, some val, n0, n1, tc, items, ns, rest8, Z8, ⟨F10, N10, hbs, H8.off, H8.hZ, H8.hown, hI, hlen, ⟨H8.zf.hal, H8.asl, hnn, H8.zf.arr, H8.ils, ⟨us', cu, H8.zf.used, hus3⟩, H8.zf.slots, H8.zf.far, Dist.later G1 G0 hdist hbg hen (fun i j hj => ?_) (fun i j hj => ?_) ?_, fun i j => ?_, adjAdd_out hout hen⟩, H8.K, sm⟩⟩
  · unfold adjAdd; split
    · exact List.mem_append.mpr (.inl hj)
    · exact hj
  · unfold adjAdd at hj
    split at hj
    · rcases List.mem_append.mp hj with hj | hj
      · exact .inl hj
      · exact .inr ⟨by assumption, List.mem_singleton.mp hj⟩
    · exact .inl hj
  · unfold adjAdd; rw [if_pos rfl]; exact List.mem_append.mpr (.inr (.head _))
  · have a1 := hfb i j
    have a2 := hfb i bg
    have a3 := hfb en j
    show 0 ≤ min (min 99 (f i j)) (f i bg + 1 + f en j) ∧ min (min 99 (f i j)) (f i bg + 1 + f en j) ≤ 99
    omega
end
end Mine
end
section
open PySem PySem.W PyProof.Rows PySem.Calls PySem.Spec PyProof.V
namespace Mine
theorem far_itemH {w : World} {A : Around} {s : Shared} {g : Heap} {L T d : Addr} {news : List (Addr × Obj)} {n a b : Nat} {t u : Tok} {f : Nat → Nat → Int} {D : List (PyData × PyData)} {value slice : PySem.Expr} {Q : Value → Shared → Prop} {E : Value → Shared → Prop}
    (N : News g L s.heap news) (hk : FarAt prog0 w s.heap d n f D) (hu : A.units + 1 < cLine) (hT : (T, tupOf [.int (a : Int) t, .int (b : Int) u]) ∈ news) (ha : a < n) (hb : b < n)
    (h : ∀ tv tk, Q (.int (f a b) tv) { s with toks := tk })
    (hs : subscripted slice false (.ref d) (.ref T) = operate [.ref d, .ref T] (getItem (.ref d) (.ref T)) := by with_unfolding_all rfl) (hg : ∀ r, letTemporaryGo value (.ref d) r = pure () := by intro _; with_unfolding_all rfl) :
    wpAny (model prog0 w) A (subscriptTail value slice (.ref d) (.ref T)) Q E s := by
  have key : TupKeyObj (intKind prog0 w) [(a : Int), (b : Int)] (tupOf [.int (a : Int) t, .int (b : Int) u]) := TupKeyObj.made (.cons (by simp [intKind, Value.isInt]) (.cons (by simp [intKind, Value.isInt]) .nil))
  refine item_tabH (knd := tupleKind (intKind _ w)) (k := [(a : Int), (b : Int)]) (same_encTuple same_int) (tupleKind_room_in1 hu) (key.key (N.get hT)) hk.tab (hk.has a b ha hb) (fun v hv => ?_) hs hg
  obtain ⟨t, rfl⟩ := hv.int_inv
  exact h t _
theorem mem_pre2 {x y : Addr × Obj} {l r : List (Addr × Obj)} : ∀ q ∈ x :: y :: l, q ∈ x :: y :: (l ++ r) := fun q hq => by
  rcases List.mem_cons.mp hq with rfl | hq
  · exact .head _
  rcases List.mem_cons.mp hq with rfl | hq
  · exact .tail _ (.head _)
  · exact .tail _ (.tail _ (List.mem_append.mpr (.inl hq)))
theorem al_item {as : List ArrRec} {n i : Nat} (hl : as.length = n) (hi : i < n) : (as.map fun r => Value.ref r.a)[((i : Nat) : Int).toNat]? = some (.ref (adOf as i)) := by
  have : as[i]? = some (as[i]'(by omega)) := by simp
  simp [adOf, this]
theorem use_right {w : World} {A : Around} {s : Shared} {g : Heap} {L l lk : Addr} {m : Str → Option Value} {news rest Z : List (Addr × Obj)} {n gi k c : Nat} {al ul fd : Addr} {as : List ArrRec} {adj : Nat → List Nat} {f : Nat → Nat → Int} {rs : List Nat} {due : Int} {td : Tok} {Q : Value → Shared → Prop} {E : Value → Shared → Prop} {mean : ExcName → Option Value} {mg mb : Str → Option Value}
    (X : KIn w g) (T : TopAt mean mg mb g) (F : Fr g L s.heap m) (N : News g L s.heap news) (hh : A.handled = none) (hd : A.depth ≤ 350) (hu : A.units ≤ 350)
    (S : St w n al ul fd as adj f Z) (K : LinkL w rest lk n adj k) (hZ : ∀ p ∈ Z, p ∈ news) (hR : ∀ p ∈ rest, p ∈ news) (hl : (l, PySem.W.listOf (rs.map fun r => Value.ref (adOf as r)).toArray c) ∈ news) (hrs : (∃ a, rs = [a]) ∨ ∃ a b, rs = [a, b]) (hr : ∀ r ∈ rs, r < n) (hg : gi < n) (hdue : Dist adj rs gi due)
    (k' : ∀ h' tk, Fr g L h' m → News g L h' news → Q (.bool true) { s with heap := h', toks := tk }) :
    wpAny (model prog0 w) A (call (.ref 390) [.ref l, .ref (adOf as gi), .ref lk, .int due td]) Q E s := by
  have hn4 : n ≤ 4 := by have := S.hn; omega
  obtain ⟨D, hD⟩ := K.at (news_sub N hR)
  exact use_val (d := 350) (u := 350) F N hh hd hu (way_right (X.keeps F.keep) (T.keeps F.keep) (S.graph (news_sub N hZ)) hn4 hrs (N _ hl).1 hr hg hD hdue) k'
section
local macro_rules | `(tactic| k_all) => `(tactic| assumption)
inductive P_turn_t3 (s0 : Shared) (w : World) (g : Heap) (L : Addr) (l : Addr) (b : Addr) (sc : Addr) (al : Addr) (lk : Addr) (ul : Addr) (fd : Addr) (n : Nat) (tm : Tok) (as : List ArrRec) (adj : Nat → List Nat) (f : Nat → Nat → Int) (c : Int) (k : Nat) (own : List (Addr × Obj)) (rest : List (Addr × Obj)) (Z : List (Addr × Obj)) (vt : Option Value) (vb : Option Value) (ve : Option Value) (vf : Option Value) (vn : Option Value) (vv : Option Value) (vl : Option Value) (s' : Shared) : Prop
  | mk (o p : Nat) (t1 t2 : Tok) (vs : Option Value) (n0 n1 : Nat) (tc : Tok) (items : List Value) (ns : List Int) (e1 : o < n) (e2 : p < n) (e3 : TS s0 w g L b sc al lk ul fd n as adj f (c + 6) k own (LM l b al lk ul n tm fd vt vb ve vf vn vv vs (some (.int (o : Int) t1)) (some (.int (p : Int) t2)) vl) tc n0 n1 items ns rest Z s') : P_turn_t3 s0 w g L l b sc al lk ul fd n tm as adj f c k own rest Z vt vb ve vf vn vv vl s'
theorem turn_t3 {s0 : Shared} {w : World} {s : Shared} {g : Heap} {fa L l b sc al lk ul fd : Addr} {cv : Value} {n : Nat} {tm : Tok} {as : List ArrRec} {adj : Nat → List Nat} {f : Nat → Nat → Int} {c : Int} {k : Nat} {own : List (Addr × Obj)} {tc : Tok} {n0 n1 : Nat} {items : List Value} {ns : List Int} {rest Z : List (Addr × Obj)} {vt vb ve vf vn vv vs vo vp vl : Option Value} {mean : ExcName → Option Value} {mg mb : Str → Option Value}
    (X : (Mine.hd.heap_1 w.params).In g) (T : Top Mine.view (looseW Mine.view [Str.ofString "SnobolError"]) mean mg mb g)
    (H : TS s0 w g L b sc al lk ul fd n as adj f c k own (LM l b al lk ul n tm fd vt vb ve vf vn vv vs vo vp vl) tc n0 n1 items ns rest Z s) (hc0 : 0 ≤ c) (hc1 : c ≤ 900) :
    wpAny (model PySem.Challenge.rw_sj0194_01.row.prog w) ((AA 310 200).deeper (lawEnv L fa cv)) (exec (tS 3) (lawEnv L fa cv)) (NextP (P_turn_t3 s0 w g L l b sc al lk ul fd n tm as adj f c k own rest Z vt vb ve vf vn vv vl)) (fun _ _ => False) s := by
  dsimp only [lawEnv, tS, lawTurn, lawS, lawBody, lawScope, lawP, mkLaw, gz, gs]
  revert T X; k_fill; intro X T
  k_with_none
  w_top off
  k_with "call ref" => refine Mine.stop ?_
  k_with "subscriptTail Name Name ref int" => refine Mine.stop ?_
  k_with "subscriptTail Name Tuple ref ref" => refine Mine.stop ?_
  k_with "exec For Name Call cons nil" => refine Mine.stop ?_
  k_with "pyIter ref" => refine Mine.stop ?_
  k_whole
  (try k_fold)
  obtain ⟨F', N', hbs, off, hZ, hown, hI, hlen, S, K, sm⟩ := H
  have hn4 : n ≤ 4 := by have := S.hn; omega
  have hn3 : 3 ≤ n := by have := S.hn; omega
  have hasl := S.asl
  obtain ⟨cal, hal⟩ := S.hal
  obtain ⟨Df, hDf1, hDf2, hDf3⟩ := id S.far
  change wpAny _ _ _ _ _ _
  with_unfolding_all refine' For_invVF (by k_asm) ?k1 ?k2 ?_ ?k3 PassesOwn.never
  case k1 => exact rfl
  case k2 => exact rfl
  case k3 => intro _; rfl
  k_steps
  change wpAny _ _ _ _ _ _
  rename IsRange _ _ _ _ _ _ _ _ => R9
  rename Fr _ _ _ _ => F0
  rename News _ _ _ _ => N0
  refine iter_range (n := 3) (fun i m nx => ∃ (vs vo vp : Option Value) (n0 n1 : Nat) (tc : Tok) (items : List Value) (ns : List Int), m = LM l b al lk ul n tm fd vt vb ve vf vn vv vs vo vp vl ∧ nx = (b, PySem.W.listOf [.ref sc, .int (c + 2 * i) tc].toArray n0) :: (sc, PySem.W.listOf items.toArray n1) :: rest ∧ IntsAre items ns ∧ items.length ≤ 100 ∧
    (i ≠ 0 → ∃ (o p : Nat) (t1 t2 : Tok), o < n ∧ p < n ∧ vo = some (.int (o : Int) t1) ∧ vp = some (.int (p : Int) t2))) rfl R9 (by decide) F0 N0 ?hj ?turn ?done
  case hj =>
    exact ⟨vs, vo, vp, n0, n1, tc, items, ns, rfl, by simp, hI, hlen, fun h => absurd rfl h⟩
  case done =>
    rintro m₁ nx h1 tk1 ⟨vs, vo, vp, n0, n1, tc, items, ns, rfl, rfl, hI, hlen, hop⟩ F' N'
    obtain ⟨o, p, t1, t2, ho, hp, rfl, rfl⟩ := hop (by decide)
    exact nextP ⟨o, p, t1, t2, vs, n0, n1, tc, items, ns, ho, hp, ⟨F', N', hbs, off, hZ, hown, hI, hlen, S, K, sm⟩⟩
  case turn =>
    clear F0 N0 R9 hI hlen
    rintro i ti m₁ nx h1 tk1 own2 hin ⟨vs, vo, vp, n0, n1, tc, items, ns, rfl, rfl, hI, hlen, hop⟩ hsep hcl F' N'
    rw [LM_side] at F'
    replace N' : News g L h1 ((b, PySem.W.listOf [.ref sc, .int (c + 2 * (i : Int)) tc].toArray n0) :: (sc, PySem.W.listOf items.toArray n1) :: (rest ++ own2)) := N'
    have off2 : ∀ p ∈ rest ++ own2, p.1 ≠ b ∧ p.1 ≠ sc := fun p hp => (List.mem_append.mp hp).elim (off p) fun hp => ⟨Ne.symm (hsep _ (.head _) p hp), Ne.symm (hsep _ (.tail _ (.head _)) p hp)⟩
    k_steps
    change wpAny _ _ _ _ _ _
    refine use_take X T F' N' rfl (Nat.le_of_ble_eq_true rfl) (Nat.le_of_ble_eq_true rfl) hbs (fun p hp => (off2 p hp).1) (fun p hp => (off2 p hp).2) hI hlen (by omega) (by omega) (by omega) (by omega) ?_
    clear F' N' hI hlen
    rintro h' tk' x1 t1 u1 items1 ns1 m1 m2 a1 a2 hI hlen F' N'
    k_steps
    change wpAny _ _ _ _ _ _
    refine use_take X T F' N' rfl (Nat.le_of_ble_eq_true rfl) (Nat.le_of_ble_eq_true rfl) hbs (fun p hp => (off2 p hp).1) (fun p hp => (off2 p hp).2) hI hlen (by omega) (by omega) (by omega) (by omega) ?_
    clear F' N' hI hlen
    rintro h' tk' x2 t2 u2 items2 ns2 m3 m4 a3 a4 hI hlen F' N'
    obtain ⟨o, rfl⟩ := Int.eq_ofNat_of_zero_le a1
    obtain ⟨p, rfl⟩ := Int.eq_ofNat_of_zero_le a3
    k_steps
    change wpAny _ _ _ _ _ _
    rename Fr _ _ _ _ => F1
    rename News _ _ _ _ => N1
    have F2 : Fr g L _ (fun y => if y = Str.ofString "one" then some (.int (o : Int) t1) else (fun y => if y = Str.ofString "other" then some (.int (p : Int) t2) else LM l b al lk ul n tm fd vt vb ve vf vn vv (some (.int (i : Int) ti)) vo vp vl y) y) := F1
    rw [LM_other] at F2
    rw [LM_one] at F2
    replace N1 := news_sub N1 fun p hp => List.Mem.tail _ hp
    clear F1
    refine item1 (k := (o : Int)) (v := .ref (adOf as o)) N1 (.tail _ (.tail _ (List.mem_append.mpr (.inl (hZ _ hal).1)))) (by omega) (by omega) (al_item hasl (by omega)) ?_
    k_steps
    change wpAny _ _ _ _ _ _
    rename Fr _ _ _ _ => F1
    rename News _ _ _ _ => N3
    refine item1 (k := (p : Int)) (v := .ref (adOf as p)) N3 (.tail _ (.tail _ (.tail _ (List.mem_append.mpr (.inl (hZ _ hal).1))))) (by omega) (by omega) (al_item hasl (by omega)) ?_
    k_steps
    change wpAny _ _ _ _ _ _
    rename Fr _ _ _ _ => F4
    rename News _ _ _ _ => N4
    refine far_itemH N4 ⟨hDf1.at (news_sub N4 fun q hq => .tail _ (.tail _ (.tail _ (.tail _ (List.mem_append.mpr (.inl (hZ _ hq).1)))))), hDf3⟩ (Nat.le_of_ble_eq_true rfl) (.head _) (by omega) (by omega) ?_
    intro tv9 tk9
    k_steps
    change wpAny _ _ _ _ _ _
    refine use_right (rs := [o]) (gi := p) X T F4 N4 rfl (Nat.le_of_ble_eq_true rfl) (Nat.le_of_ble_eq_true rfl) S K (fun q hq => .tail _ (.tail _ (.tail _ (.tail _ (List.mem_append.mpr (.inl (hZ _ hq).1)))))) (fun q hq => .tail _ (.tail _ (.tail _ (.tail _ (List.mem_append.mpr (.inl hq)))))) (.tail _ (.head _)) (.inl ⟨_, rfl⟩) (fun r hr => by rw [List.mem_singleton.mp hr]; omega) (by omega) (S.dist o p (by omega) (by omega)) ?_
    intro h5 tk5 F5 N5
    k_steps
    rename Fr _ _ _ _ => F6
    rename News _ _ _ _ => N6
    have hc2 : c + 2 * (i : Int) + 1 + 1 = c + 2 * ((i + 1 : Nat) : Int) := by omega
    rw [hc2] at N6
    exact ⟨_, _, _, _, _, rfl, F6, news_sub N6 fun q hq => .tail _ (.tail _ hq), mem_pre2, fun q hq => .tail _ (.tail _ (List.mem_append.mpr (.inr hq))), fun q hq r hr => by
      rcases List.mem_cons.mp hq with rfl | hq
      · exact hsep _ (.head _) r hr
      rcases List.mem_cons.mp hq with rfl | hq
      · exact hsep _ (.tail _ (.head _)) r hr
      · exact hsep q (.tail _ (.tail _ hq)) r hr, _, _, _, m3, m4, u2, items2, ns2, rfl, rfl, hI, hlen, fun _ => ⟨o, p, t1, t2, by omega, by omega, rfl, rfl⟩⟩
end
end Mine
end
section
open PySem PySem.W PyProof.Rows PySem.Calls PySem.Spec PyProof.V
namespace Mine
theorem min2 {prog : Program} {w : World} {A : Around} {E : Value → Shared → Prop} {s : Shared} {g : Heap} {L : Addr} {m : Str → Option Value} {news : List (Addr × Obj)} {a b : Int} {t u : Tok} {Q : Value → Shared → Prop} (hh : A.handled = none)
    (F : Fr g L s.heap m) (N : News g L s.heap news) (h : ∀ h' v tk, Fr g L h' m → News g L h' news → Q (.int (min a b) v) { s with heap := h', toks := tk }) :
    wpAny (model prog w) A (call (.builtin "min") [.int a t, .int b u]) Q E s := by
  refine PySem.Flt.min_two_num hh (.int a t) (.int b u) fun h' tk st => ?_
  have k := fun v => h h' v tk (fr_stays F st) (news_stays N st)
  have e : PySem.Flt.ltV (.int b u) (.int a t) = decide (b < a) := rfl
  rw [e]
  by_cases h1 : b < a
  · rw [decide_eq_true h1]
    have := k u
    rwa [show min a b = b by omega] at this
  · rw [decide_eq_false h1]
    have := k t
    rwa [show min a b = a by omega] at this
section
local macro_rules | `(tactic| k_all) => `(tactic| assumption)
variable {s0 : Shared} {w : World} {s : Shared} {g : Heap} {fa L l b sc al lk ul fd : Addr} {cv : Value} {n : Nat} {tm : Tok} {as : List ArrRec} {adj : Nat → List Nat} {f : Nat → Nat → Int} {c : Int} {k : Nat} {own : List (Addr × Obj)} {tc : Tok} {n0 n1 : Nat} {items : List Value} {ns : List Int} {rest Z : List (Addr × Obj)} {vt vb vf vn vv vs vl : Option Value} {en o p : Nat} {te t1 t2 tl : Tok} {mean : ExcName → Option Value} {mg mb : Str → Option Value}
theorem turn_t4 (X : (Mine.hd.heap_1 w.params).In g) (T : Top Mine.view (looseW Mine.view [Str.ofString "SnobolError"]) mean mg mb g)
    (H : TS s0 w g L b sc al lk ul fd n as adj f c k own (LM l b al lk ul n tm fd vt vb (some (.int (en : Int) te)) vf vn vv vs (some (.int (o : Int) t1)) (some (.int (p : Int) t2)) vl) tc n0 n1 items ns rest Z s) (he : en < n) (ho : o < n) (hp : p < n) :
    wpAny (model PySem.Challenge.rw_sj0194_01.row.prog w) ((AA 310 200).deeper (lawEnv L fa cv)) (exec (tS 4) (lawEnv L fa cv)) (NextP fun s' => ∃ tl,
      TS s0 w g L b sc al lk ul fd n as adj f c k own (LM l b al lk ul n tm fd vt vb (some (.int (en : Int) te)) vf vn vv vs (some (.int (o : Int) t1)) (some (.int (p : Int) t2)) (some (.int (min (f o en) (f p en)) tl))) tc n0 n1 items ns rest Z s') (fun _ _ => False) s := by
  dsimp only [lawEnv, tS, lawTurn, lawS, lawBody, lawScope, lawP, mkLaw, gz, gs]
  revert T X; k_fill; intro X T
  k_with_none
  w_top off
  k_with "call builtin:min" => refine Mine.stop ?_
  k_with "subscriptTail Name Tuple ref ref" => refine Mine.stop ?_
  k_whole
  (try k_fold)
  obtain ⟨F', N', hbs, off, hZ, hown, hI, hlen, S, K, sm⟩ := H
  obtain ⟨Df, hDf1, hDf2, hDf3⟩ := id S.far
  k_steps
  change wpAny _ _ _ _ _ _
  rename News _ _ _ _ => N1
  refine far_itemH N1 ⟨hDf1.at (news_sub N1 fun q hq => .tail _ (.tail _ (.tail _ (hZ _ hq).1))), hDf3⟩ (Nat.le_of_ble_eq_true rfl) (.head _) ho he ?_
  intro tv1 tk1
  k_steps
  change wpAny _ _ _ _ _ _
  rename News _ _ _ _ => N2
  refine far_itemH N2 ⟨hDf1.at (news_sub N2 fun q hq => .tail _ (.tail _ (.tail _ (.tail _ (hZ _ hq).1)))), hDf3⟩ (Nat.le_of_ble_eq_true rfl) (.head _) hp he ?_
  intro tv2 tk2
  k_steps
  change wpAny _ _ _ _ _ _
  rename Fr _ _ _ _ => F3
  rename News _ _ _ _ => N3
  refine min2 rfl F3 N3 ?_
  intro h4 v4 tk4 F4 N4
  k_steps
  rename Fr _ _ _ _ => F5
  rename News _ _ _ _ => N5
  have F6 : Fr g L _ (fun y => if y = Str.ofString "least" then some (.int (min (f o en) (f p en)) v4) else LM l b al lk ul n tm fd vt vb (some (.int (en : Int) te)) vf vn vv vs (some (.int (o : Int) t1)) (some (.int (p : Int) t2)) vl y) := F5
  rw [LM_least] at F6
  exact nextP ⟨v4, ⟨F6, news_sub N5 fun q hq => .tail _ (.tail _ hq), hbs, off, hZ, hown, hI, hlen, S, K, sm⟩⟩
theorem turn_t5 (X : (Mine.hd.heap_1 w.params).In g) (T : Top Mine.view (looseW Mine.view [Str.ofString "SnobolError"]) mean mg mb g)
    (H : TS s0 w g L b sc al lk ul fd n as adj f c k own (LM l b al lk ul n tm fd vt vb (some (.int (en : Int) te)) vf vn vv vs (some (.int (o : Int) t1)) (some (.int (p : Int) t2)) (some (.int (min (f o en) (f p en)) tl))) tc n0 n1 items ns rest Z s) (he : en < n) (ho : o < n) (hp : p < n) :
    wpAny (model PySem.Challenge.rw_sj0194_01.row.prog w) ((AA 310 200).deeper (lawEnv L fa cv)) (exec (tS 5) (lawEnv L fa cv)) (NextP fun s' =>
      TS s0 w g L b sc al lk ul fd n as adj f c k own (LM l b al lk ul n tm fd vt vb (some (.int (en : Int) te)) vf vn vv vs (some (.int (o : Int) t1)) (some (.int (p : Int) t2)) (some (.int (min (f o en) (f p en)) tl))) tc n0 n1 items ns rest Z s') (fun _ _ => False) s := by
  dsimp only [lawEnv, tS, lawTurn, lawS, lawBody, lawScope, lawP, mkLaw, gz, gs]
  revert T X; k_fill; intro X T
  k_with_none
  w_top off
  k_with "call ref" => refine Mine.stop ?_
  k_with "subscriptTail Name Name ref int" => refine Mine.stop ?_
  k_whole
  (try k_fold)
  obtain ⟨F', N', hbs, off, hZ, hown, hI, hlen, S, K, sm⟩ := H
  have hn4 : n ≤ 4 := by have := S.hn; omega
  have hasl := S.asl
  have hout := S.out
  obtain ⟨cal, hal⟩ := S.hal
  k_steps
  change wpAny _ _ _ _ _ _
  refine item1 (k := (o : Int)) (v := .ref (adOf as o)) N' (.tail _ (.tail _ (hZ _ hal).1)) (by omega) (by omega) (al_item hasl ho) ?_
  k_steps
  change wpAny _ _ _ _ _ _
  rename News _ _ _ _ => N1
  refine item1 (k := (p : Int)) (v := .ref (adOf as p)) N1 (.tail _ (.tail _ (hZ _ hal).1)) (by omega) (by omega) (al_item hasl hp) ?_
  k_steps
  change wpAny _ _ _ _ _ _
  rename News _ _ _ _ => N2
  refine item1 (k := (en : Int)) (v := .ref (adOf as en)) N2 (.tail _ (.tail _ (.tail _ (hZ _ hal).1))) (by omega) (by omega) (al_item hasl he) ?_
  k_steps
  change wpAny _ _ _ _ _ _
  rename Fr _ _ _ _ => F3
  rename News _ _ _ _ => N3
  refine use_right (rs := [o, p]) (gi := en) X T F3 N3 rfl (Nat.le_of_ble_eq_true rfl) (Nat.le_of_ble_eq_true rfl) S K (fun q hq => .tail _ (.tail _ (.tail _ (hZ _ hq).1))) (fun q hq => .tail _ (.tail _ (.tail _ hq))) (.head _) (.inr ⟨_, _, rfl⟩) (fun r hr => by
    rcases List.mem_cons.mp hr with rfl | hr
    · exact ho
    · rw [List.mem_singleton.mp hr]; exact hp) he (Dist.two ⟨hn4, hout⟩ ho hp (S.dist o en ho he) (S.dist p en hp he)) ?_
  intro h5 tk5 F5 N5
  k_steps
  rename Fr _ _ _ _ => F6
  rename News _ _ _ _ => N6
  exact nextP ⟨F6, news_sub N6 fun q hq => .tail _ hq, hbs, off, hZ, hown, hI, hlen, S, K, sm⟩
theorem turn_t6 (X : (Mine.hd.heap_1 w.params).In g) (T : Top Mine.view (looseW Mine.view [Str.ofString "SnobolError"]) mean mg mb g)
    (H : TS s0 w g L b sc al lk ul fd n as adj f c k own (LM l b al lk ul n tm fd vt vb (some (.int (en : Int) te)) vf vn vv vs (some (.int (o : Int) t1)) (some (.int (p : Int) t2)) vl) tc n0 n1 items ns rest Z s) (he : en < n) (ho : o < n) (hp : p < n) :
    wpAny (model PySem.Challenge.rw_sj0194_01.row.prog w) ((AA 310 200).deeper (lawEnv L fa cv)) (exec (tS 6) (lawEnv L fa cv)) (NextP fun s' =>
      TS s0 w g L b sc al lk ul fd n as adj f c k own (LM l b al lk ul n tm fd vt vb (some (.int (en : Int) te)) vf vn vv vs (some (.int (o : Int) t1)) (some (.int (p : Int) t2)) vl) tc n0 n1 items ns rest Z s') (fun _ _ => False) s := by
  dsimp only [lawEnv, tS, lawTurn, lawS, lawBody, lawScope, lawP, mkLaw, gz, gs]
  revert T X; k_fill; intro X T
  k_with_none
  w_top off
  k_with "subscriptTail Name Tuple ref ref" => refine Mine.stop ?_
  k_whole
  (try k_fold)
  obtain ⟨F', N', hbs, off, hZ, hown, hI, hlen, S, K, sm⟩ := H
  obtain ⟨Df, hDf1, hDf2, hDf3⟩ := id S.far
  have hn4 : n ≤ 4 := by have := S.hn; omega
  have htri : f o en ≤ f o p + f p en := Dist.triangle ⟨hn4, S.out⟩ ho hp (S.dist o en ho he) (S.dist o p ho hp) (S.dist p en hp he)
  k_steps
  change wpAny _ _ _ _ _ _
  rename News _ _ _ _ => N1
  refine far_itemH N1 ⟨hDf1.at (news_sub N1 fun q hq => .tail _ (.tail _ (.tail _ (hZ _ hq).1))), hDf3⟩ (Nat.le_of_ble_eq_true rfl) (.head _) ho he ?_
  intro tv1 tk1
  k_steps
  change wpAny _ _ _ _ _ _
  rename News _ _ _ _ => N2
  refine far_itemH N2 ⟨hDf1.at (news_sub N2 fun q hq => .tail _ (.tail _ (.tail _ (.tail _ (hZ _ hq).1)))), hDf3⟩ (Nat.le_of_ble_eq_true rfl) (.head _) ho hp ?_
  intro tv2 tk2
  k_steps
  change wpAny _ _ _ _ _ _
  rename News _ _ _ _ => N3
  refine far_itemH N3 ⟨hDf1.at (news_sub N3 fun q hq => .tail _ (.tail _ (.tail _ (.tail _ (.tail _ (hZ _ hq).1))))), hDf3⟩ (Nat.le_of_ble_eq_true rfl) (.head _) hp he ?_
  intro tv3 tk3
  k_steps
  rename Fr _ _ _ _ => F6
  rename News _ _ _ _ => N6
  exact nextP ⟨F6, news_sub N6 fun q hq => .tail _ (.tail _ (.tail _ hq)), hbs, off, hZ, hown, hI, hlen, S, K, sm⟩
end
end Mine
end
section
open PySem PySem.W PyProof.Rows PySem.Calls PySem.Spec PyProof.V
namespace Mine
theorem seq_next {M : Model} {A : Around} {env : Env} {st : Stmt} {r : List Stmt} {P : Shared → Prop} {Q : Flow → Shared → Prop} {E : Value → Shared → Prop} {s : Shared} (h1 : wpAny M A (exec st env) (NextP P) E s) (h2 : ∀ s', P s' → wpAny M A (execs r env) Q E s') : wpAny M A (execs (st :: r) env) Q E s :=
  wpAny_execs_cons (wpAny_mono h1 (fun fl s' h => by obtain ⟨rfl, h⟩ := h; exact h2 s' h) fun _ _ x => x)
theorem lawTurn_eq : lawTurn = [tS 0, tS 1, tS 2, tS 3, tS 4, tS 5, tS 6] := by
  unfold tS lawTurn lawS lawBody lawP
  dsimp only [mkLaw]
  simp only [List.getD_cons_zero, List.getD_cons_succ]
theorem lawBody_eq : lawBody = [lawS 0, lawS 1, lawS 2, lawS 3, lawS 4, lawS 5, lawS 6] := by
  unfold lawS lawBody lawP
  dsimp only [mkLaw]
  simp only [List.getD_cons_zero, List.getD_cons_succ]
inductive P_turn_all (s0 : Shared) (w : World) (g : Heap) (L : Addr) (l : Addr) (b : Addr) (sc : Addr) (al : Addr) (lk : Addr) (ul : Addr) (n : Nat) (tm : Tok) (as : List ArrRec) (c : Int) (k : Nat) (own : List (Addr × Obj)) (vt : Option Value) (s' : Shared) : Prop
  | mk (fd : Addr) (adj : Nat → List Nat) (f : Nat → Nat → Int) (vb ve vf vn vv vs vo vp vl : Option Value) (tc : Tok) (n0 n1 : Nat) (items : List Value) (ns : List Int) (rest Z : List (Addr × Obj)) (e1 : TS s0 w g L b sc al lk ul fd n as adj f (c + 9) (k + 1) own (LM l b al lk ul n tm fd vt vb ve vf vn vv vs vo vp vl) tc n0 n1 items ns rest Z s') : P_turn_all s0 w g L l b sc al lk ul n tm as c k own vt s'
theorem turn_all {s0 : Shared} {w : World} {s : Shared} {g : Heap} {fa L l b sc al lk ul fd : Addr} {cv : Value} {n : Nat} {tm : Tok} {as : List ArrRec} {adj : Nat → List Nat} {f : Nat → Nat → Int} {c : Int} {k : Nat} {own : List (Addr × Obj)} {tc : Tok} {n0 n1 : Nat} {items : List Value} {ns : List Int} {rest Z : List (Addr × Obj)} {vt vb ve vf vn vv vs vo vp vl : Option Value} {mean : ExcName → Option Value} {mg mb : Str → Option Value}
    (X : (Mine.hd.heap_1 w.params).In g) (T : Top Mine.view (looseW Mine.view [Str.ofString "SnobolError"]) mean mg mb g)
    (H : TS s0 w g L b sc al lk ul fd n as adj f c k own (LM l b al lk ul n tm fd vt vb ve vf vn vv vs vo vp vl) tc n0 n1 items ns rest Z s) (hc0 : 0 ≤ c) (hc1 : c ≤ 800) (hk : k ≤ 50) (hcl : ∀ q ∈ own, q.2.cls = .type "range_iterator") :
    wpAny (model prog0 w) ((AA 310 200).deeper (lawEnv L fa cv)) (execs lawTurn (lawEnv L fa cv)) (NextP (P_turn_all s0 w g L l b sc al lk ul n tm as c k own vt)) (fun _ _ => False) s := by
  rw [lawTurn_eq]
  refine seq_next (turn_t0 X T H hc0 (by omega)) ?_
  rintro s1 ⟨bg, en, fo, t1, t2, t3, tc1, n01, n11, items1, ns1, hbg, hen, hfo, H1⟩
  refine seq_next (turn_t1 X T H1 hen) ?_
  rintro s2 ⟨nm, rest2, Z2, r, hr, hnm, H2⟩
  refine seq_next (turn_t2 X T H2 hbg hen hfo hr hnm hk hcl) ?_
  rintro s3 ⟨fd3, adj3, f3, vv3, n03, n13, tc3, items3, ns3, rest3, Z3, H3⟩
  refine seq_next (turn_t3 X T H3 (by omega) (by omega)) ?_
  rintro s4 ⟨o, p, u1, u2, vs4, n04, n14, tc4, items4, ns4, ho, hp, H4⟩
  refine seq_next (turn_t4 X T H4 hen ho hp) ?_
  rintro s5 ⟨tl, H5⟩
  refine seq_next (turn_t5 X T H5 hen ho hp) ?_
  intro s6 H6
  refine seq_next (turn_t6 X T H6 hen ho hp) ?_
  intro s7 H7
  have hc9 : c + 3 + 6 = c + 9 := by omega
  rw [hc9] at H7
  exact wpAny_execs_nil (nextP ⟨_, _, _, _, _, _, _, _, _, _, _, _, _, _, _, _, _, _, _, H7⟩)
end Mine
end
section
open PySem PySem.W PyProof.Rows PySem.Calls PySem.Spec PyProof.V
namespace Mine
def Keeps (c : String) (Z Z' : List (Addr × Obj)) : Prop := ∀ p ∈ Z, p.2.cls ≠ .type c → p ∈ Z'
theorem cls_ne {a b : String} (h : a ≠ b) : Value.type a ≠ Value.type b := fun e => h (by injection e)
theorem ref_cls_ne {a : Addr} {b : String} : Value.ref a ≠ Value.type b := fun e => by cases e
section
variable {w : World} {Z Z' : List (Addr × Obj)}
theorem ArrF.keepR {r : ArrRec} {k : Int} (h : ArrF w Z r k) (hs : Keeps "range_iterator" Z Z') : ArrF w Z' r k := by
  obtain ⟨a, ⟨oa, b1, b2⟩, ⟨nb, c⟩, t1, t2, e⟩ := h
  refine ⟨hs _ a ref_cls_ne, ⟨oa, hs _ b1 ?_, b2⟩, ⟨nb, hs _ c (cls_ne (by decide))⟩, t1, t2, hs _ e (cls_ne (by decide))⟩
  obtain ⟨_, _, _, _, _, _, _, _, _, _, rfl⟩ := b2
  exact cls_ne (by decide)
theorem nameDict_cls {od : Obj} {a : Addr} {j : Int} (h : NameDict w od a j) : od.cls ≠ .type "range_iterator" := by
  obtain ⟨_, _, _, _, _, rfl⟩ := h
  exact cls_ne (by decide)
theorem SlotL.keepR {r : ArrRec} {v : Value} (h : SlotL w Z r v) (hs : Keeps "range_iterator" Z Z') : SlotL w Z' r v := by
  cases h with
  | arr => exact .arr
  | name a b c => exact .name (hs _ a ref_cls_ne) (hs _ b (nameDict_cls c)) c
  | pat a b c d e f g h => exact .pat (hs _ a ref_cls_ne) (hs _ b (cls_ne (by decide))) (hs _ c (cls_ne (by decide))) (hs _ d (cls_ne (by decide))) (hs _ e (cls_ne (by decide))) (hs _ f ref_cls_ne) (hs _ g (nameDict_cls h)) h
theorem SlotSt.keepR {as : List ArrRec} {l : List Nat} {x0 x1 : Value} (h : SlotSt w Z as l x0 x1) (hs : Keeps "range_iterator" Z Z') : SlotSt w Z' as l x0 x1 := by
  cases h with
  | zero a b => exact .zero a b
  | one a b c => exact .one a (b.keepR hs) c
  | two a b c d => exact .two a b (c.keepR hs) (d.keepR hs)
theorem tab_keepR {fd : Addr} {D : List (PyData × PyData)} (T : TupTab (intKind prog0 w) PyData.int Z fd D) (hs : Keeps "range_iterator" Z Z') : TupTab (intKind prog0 w) PyData.int Z' fd D := by
  obtain ⟨lo, o, es, ep, xs, h1, hc, hd, he, hn, hks, hf⟩ := T
  refine ⟨lo, o, es, ep, xs, hs _ h1 (by show o.cls ≠ _; rw [hc.1]; exact cls_ne (by decide)), hc, hd, he, hn, fun y hy => ?_, hf⟩
  obtain ⟨ok, h2, t⟩ := hks y hy
  exact ⟨ok, hs _ h2 (by show ok.cls ≠ _; rw [t.1]; exact cls_ne (by decide)), t⟩
theorem St.keepR {n : Nat} {al ul fd : Addr} {as : List ArrRec} {adj : Nat → List Nat} {f : Nat → Nat → Int} (S : St w n al ul fd as adj f Z) (hs : Keeps "range_iterator" Z Z') : St w n al ul fd as adj f Z' := by
  obtain ⟨c, h1⟩ := S.hal
  obtain ⟨us, c2, h2, h3⟩ := S.used
  obtain ⟨D, d1, d2, d3⟩ := S.far
  exact ⟨⟨c, hs _ h1 (cls_ne (by decide))⟩, S.asl, S.hn, fun j r h => (S.arr j r h).keepR hs, S.ils, ⟨us, c2, hs _ h2 (cls_ne (by decide)), h3⟩, fun j r h => let ⟨x0, x1, c, a, b⟩ := S.slots j r h; ⟨x0, x1, c, hs _ a (cls_ne (by decide)), b.keepR hs⟩, ⟨D, tab_keepR d1 hs, d2, d3⟩, S.dist, S.fb, S.out⟩
end
structure TF (w : World) (b sc al lk ul fd : Addr) (n : Nat) (as : List ArrRec) (adj : Nat → List Nat) (f : Nat → Nat → Int) (k : Nat) (items : List Value) (ns : List Int) (rest Z : List (Addr × Obj)) : Prop where
  hbs : @Ne Nat b sc
  off : ∀ p ∈ rest, p.1 ≠ b ∧ p.1 ≠ sc
  hZ : ∀ p ∈ Z, p ∈ rest ∧ p.1 ≠ lk
  hints : IntsAre items ns
  len : items.length ≤ 100
  S : St w n al ul fd as adj f Z
  K : LinkL w rest lk n adj k
theorem ts_out {s0 : Shared} {w : World} {g : Heap} {L b sc al lk ul fd : Addr} {n : Nat} {as : List ArrRec} {adj : Nat → List Nat} {f : Nat → Nat → Int} {c : Int} {k : Nat} {own : List (Addr × Obj)} {m : Str → Option Value} {tc : Tok} {n0 n1 : Nat} {items : List Value} {ns : List Int} {rest Z : List (Addr × Obj)} {s : Shared}
    (H : TS s0 w g L b sc al lk ul fd n as adj f c k own m tc n0 n1 items ns rest Z s) (hcl : ∀ q ∈ own, q.2.cls = .type "range_iterator") :
    ∃ rest' Z', TF w b sc al lk ul fd n as adj f k items ns rest' Z' ∧ (∀ p ∈ rest', p ∈ rest) ∧ (∀ p ∈ (b, PySem.W.listOf [.ref sc, .int c tc].toArray n0) :: (sc, PySem.W.listOf items.toArray n1) :: rest', ∀ q ∈ own, p.1 ≠ q.1) := by
  have fn := fn_of H.N
  have hq : ∀ q ∈ own, q ∈ (b, PySem.W.listOf [.ref sc, .int c tc].toArray n0) :: (sc, PySem.W.listOf items.toArray n1) :: rest := fun q hq => .tail _ (.tail _ (H.hown q hq))
  have sep : ∀ p ∈ (b, PySem.W.listOf [.ref sc, .int c tc].toArray n0) :: (sc, PySem.W.listOf items.toArray n1) :: rest, p.2.cls ≠ .type "range_iterator" → ∀ q ∈ own, p.1 ≠ q.1 := fun p hp hc q hq' => fn.ne hp (hq q hq') fun e => hc (by rw [e]; exact hcl q hq')
  have hm : ∀ (l : List (Addr × Obj)) p, p ∈ l.filter (fun p => own.all fun q => p.1 != q.1) ↔ p ∈ l ∧ ∀ q ∈ own, p.1 ≠ q.1 := by
    intro l p
    simp only [List.mem_filter, List.all_eq_true, bne_iff_ne]
  have kr : Keeps "range_iterator" rest (rest.filter fun p => own.all fun q => p.1 != q.1) := fun p hp hc => (hm _ p).mpr ⟨hp, sep p (.tail _ (.tail _ hp)) hc⟩
  have kz : Keeps "range_iterator" Z (Z.filter fun p => own.all fun q => p.1 != q.1) := fun p hp hc => (hm _ p).mpr ⟨hp, sep p (.tail _ (.tail _ (H.hZ p hp).1)) hc⟩
  refine ⟨_, _, ⟨H.hbs, fun p hp => H.off p ((hm rest p).mp hp).1, fun p hp => ?_, H.hints, H.len, H.S.keepR kz, ?_⟩, fun p hp => ((hm rest p).mp hp).1, fun p hp => ?_⟩
  · obtain ⟨h1, h2⟩ := (hm Z p).mp hp
    exact ⟨(hm rest p).mpr ⟨(H.hZ p h1).1, h2⟩, (H.hZ p h1).2⟩
  · obtain ⟨D, a, b, c⟩ := H.K
    exact ⟨D, tab_keepR a kr, b, c⟩
  · rcases List.mem_cons.mp hp with rfl | hp
    · exact sep _ (.head _) (cls_ne (by decide))
    rcases List.mem_cons.mp hp with rfl | hp
    · exact sep _ (.tail _ (.head _)) (cls_ne (by decide))
    · exact ((hm rest p).mp hp).2
theorem LM_base {l b al lk ul fd : Addr} {n : Nat} {tm : Tok} {vo vp : Option Value} : (fun y => if y = Str.ofString "other" then vp else if y = Str.ofString "one" then vo else baseM l b al lk fd ul n tm y) = LM l b al lk ul n tm fd none none none none none none none vo vp none := by
  funext y
  by_cases h1 : y = Str.ofString "least"
  · subst h1; with_unfolding_all rfl
  by_cases h2 : y = Str.ofString "side"
  · subst h2; with_unfolding_all rfl
  by_cases h3 : y = Str.ofString "value"
  · subst h3; with_unfolding_all rfl
  by_cases h4 : y = Str.ofString "name"
  · subst h4; with_unfolding_all rfl
  by_cases h5 : y = Str.ofString "form"
  · subst h5; with_unfolding_all rfl
  by_cases h6 : y = Str.ofString "end"
  · subst h6; with_unfolding_all rfl
  by_cases h7 : y = Str.ofString "begin"
  · subst h7; with_unfolding_all rfl
  by_cases h8 : y = Str.ofString "turn"
  · subst h8; with_unfolding_all rfl
  simp only [LM, if_neg h1, if_neg h2, if_neg h3, if_neg h4, if_neg h5, if_neg h6, if_neg h7, if_neg h8]
theorem ts_start {w : World} {g : Heap} {L l b sc al lk fd ul : Addr} {olk of : Obj} {items us : List Value} {ns : List Int} {n0 n1 n2 n : Nat} {tc tm : Tok} {rest : List (Addr × Obj)} {as : List ArrRec} {s0 sp s : Shared}
    (P : P3 s0 w g L l b sc al lk fd ul olk of items us ns n0 n1 n2 tc n tm rest as sp) (Q : P4 s0 w g L l b sc al lk fd ul of items us n0 n1 n2 tc n tm rest s) :
    ∃ vo vp rest' Z', TS s0 w g L b sc al lk ul fd n as (fun _ => []) f0 1 0 [] (LM l b al lk ul n tm fd none none none none none none none vo vp none) tc n0 n1 items ns rest' Z' s := by
  obtain ⟨vo, vt, D, nx, F, N, T, hl, hD, hk⟩ := Q.ex
  rw [LM_base] at F
  have fn := fn_of N
  have mr : ∀ p ∈ rest, p ∈ nx := fun p hp => hk p (.tail _ (.tail _ (.tail _ hp)))
  have mul : (ul, PySem.W.listOf us.toArray n2) ∈ nx := hk _ (.head _)
  have mb : (b, PySem.W.listOf [.ref sc, .int 1 tc].toArray n0) ∈ nx := hk _ (.tail _ (.head _))
  have msc : (sc, PySem.W.listOf items.toArray n1) ∈ nx := hk _ (.tail _ (.tail _ (.head _)))
  obtain ⟨es, ep, hex, hda, _, hpr, _⟩ := id P.dict
  have hes : es.toList = [] := by cases he : es.toList with
    | nil => rfl
    | cons a r => rw [he] at hpr; cases hpr
  have hlkn : (lk, olk) ∈ nx := mr _ P.hlk
  have hm1 : ∀ p, p ∈ nx.filter (fun p => p.1 != b && p.1 != sc) ↔ p ∈ nx ∧ p.1 ≠ b ∧ p.1 ≠ sc := by
    intro p; simp only [List.mem_filter, Bool.and_eq_true, bne_iff_ne]
  have hm2 : ∀ p, p ∈ nx.filter (fun p => p.1 != b && p.1 != sc && p.1 != lk) ↔ p ∈ nx ∧ p.1 ≠ b ∧ p.1 ≠ sc ∧ p.1 ≠ lk := by
    intro p; simp only [List.mem_filter, Bool.and_eq_true, bne_iff_ne, and_assoc]
  have nlist : ∀ (vs : Array Value) k, PySem.W.listOf vs k ≠ olk := fun vs k e => by
    have := hex.1
    rw [← e] at this
    exact cls_ne (by decide) this
  have ntup : ∀ its, tupOf its ≠ olk := fun its e => by
    have := hex.1
    rw [← e] at this
    exact cls_ne (by decide) this
  have ninst : ∀ c d, instObj c d ≠ olk := fun c d e => by
    have := hex.1
    rw [← e] at this
    exact ref_cls_ne this
  have zr : ∀ p ∈ rest, p.2 ≠ olk → p ∈ nx.filter (fun p => p.1 != b && p.1 != sc && p.1 != lk) := fun p hp hne => (hm2 p).mpr ⟨mr p hp, (P.off p hp).1, (P.off p hp).2, fn.ne (mr p hp) hlkn hne⟩
  have nblist : ∀ p ∈ nx, p.2.cls ≠ .type "list" → p.1 ≠ b ∧ p.1 ≠ sc := fun p hp hc => ⟨fn.ne hp mb fun e => hc (by rw [e]), fn.ne hp msc fun e => hc (by rw [e])⟩
  refine ⟨vo, vt, nx.filter (fun p => p.1 != b && p.1 != sc), nx.filter (fun p => p.1 != b && p.1 != sc && p.1 != lk), ⟨F, fun p hp => ?_, P.hbs, fun p hp => ((hm1 p).mp hp).2, fun p hp => ?_, (fun q hq => nomatch hq), P.hints, P.len, ⟨?_, P.asl, P.hn, fun j r hj => ?_, P.ils, ⟨us, n2, ?_, ?_⟩, fun j r hj => ?_, ⟨D, ?_, hl, hD⟩, fun i j hi hj => ?_, fun i j => ?_, fun i hi j hj => nomatch hj⟩, ⟨[], ?_, Nat.zero_le _, fun i j hj => nomatch hj⟩, Q.sm⟩⟩
  · rcases List.mem_cons.mp hp with rfl | hp
    · exact N _ mb
    rcases List.mem_cons.mp hp with rfl | hp
    · exact N _ msc
    · exact N p ((hm1 p).mp hp).1
  · obtain ⟨a, b', c, d⟩ := (hm2 p).mp hp
    exact ⟨(hm1 p).mpr ⟨a, b', c⟩, d⟩
  · obtain ⟨c, h⟩ := P.hal
    exact ⟨c, zr _ h (nlist _ _)⟩
  · obtain ⟨a1, ⟨oa, a2, a3⟩, ⟨nb, a4⟩, ⟨t1, t2, a5⟩, -⟩ := P.arr j r hj
    refine ⟨zr _ a1 (ninst _ _), ⟨oa, zr _ a2 (fun e => ?_), a3⟩, ⟨nb, zr _ a4 (nlist _ _)⟩, t1, t2, zr _ a5 (ntup _)⟩
    obtain ⟨_, _, _, _, _, _, _, _, _, _, rfl⟩ := a3
    have e' : dictOf _ _ = olk := e
    have h9 := hda
    rw [← e'] at h9
    have h8 : Data.dict _ _ = Data.dict es ep := h9
    injection h8 with h8 _
    rw [← h8] at hes
    cases hes
  · exact (hm2 _).mpr ⟨mul, P.nb.2.2.2.1, P.nb.2.2.2.2, fn.ne mul hlkn (nlist _ _)⟩
  · have := P.used
    refine ints_of (by rw [(ints_get this).1]; simp) fun i hi => ?_
    obtain ⟨t, e⟩ := (ints_get this).2 i 0 (by simp [hi])
    exact ⟨t, by simpa using e⟩
  · obtain ⟨u1, u2, c, h⟩ := (P.arr j r hj).items
    exact ⟨_, _, c, zr _ h (nlist _ _), .zero ⟨_, rfl⟩ ⟨_, rfl⟩⟩
  · obtain ⟨lo, o, es', ep', xs, h1, hc, hd, he, hn, hks, hf⟩ := T
    refine ⟨lo, o, es', ep', xs, (hm2 _).mpr ⟨h1, (nblist _ h1 (by show o.cls ≠ _; rw [hc.1]; exact cls_ne (by decide))).1, (nblist _ h1 (by show o.cls ≠ _; rw [hc.1]; exact cls_ne (by decide))).2, Ne.symm (P.noff _ P.hlk).1⟩, hc, hd, he, hn, fun y hy => ?_, hf⟩
    obtain ⟨ok, h2, t⟩ := hks y hy
    have hcl : ok.cls ≠ .type "list" := by rw [t.1]; exact cls_ne (by decide)
    refine ⟨ok, (hm2 _).mpr ⟨h2, (nblist _ h2 hcl).1, (nblist _ h2 hcl).2, fn.ne h2 hlkn fun e => ?_⟩, t⟩
    have e' : ok = olk := e
    have h9 := t.1
    rw [e', hex.1] at h9
    exact cls_ne (by decide) h9
  · exact Dist.first (n := n)
  · unfold f0; split <;> omega
  · exact TupTab.ofEmpty ((hm1 _).mpr ⟨hlkn, (P.off _ P.hlk).1, (P.off _ P.hlk).2⟩) P.lo P.dict
end Mine
end
section
open PySem PySem.W PyProof.Rows PySem.Calls PySem.Spec PyProof.V
namespace Mine
inductive JT (w : World) (l b sc al lk ul : Addr) (n : Nat) (tm : Tok) (as : List ArrRec) (i : Nat) (m : Str → Option Value) (nx : List (Addr × Obj)) : Prop
  | mk (fd : Addr) (adj : Nat → List Nat) (f : Nat → Nat → Int) (vt vb ve vf vn vv vs vo vp vl : Option Value) (tc : Tok) (n0 n1 : Nat) (items : List Value) (ns : List Int) (rest Z : List (Addr × Obj)) (e1 : m = LM l b al lk ul n tm fd vt vb ve vf vn vv vs vo vp vl) (e2 : nx = (b, PySem.W.listOf [.ref sc, .int (2 + 9 * (i : Int)) tc].toArray n0) :: (sc, PySem.W.listOf items.toArray n1) :: rest) (e3 : TF w b sc al lk ul fd n as adj f i items ns rest Z) : JT w l b sc al lk ul n tm as i m nx
section
local macro_rules | `(tactic| k_all) => `(tactic| assumption)
inductive P_law_s5 (s0 : Shared) (w : World) (g : Heap) (L : Addr) (l : Addr) (b : Addr) (sc : Addr) (al : Addr) (lk : Addr) (ul : Addr) (n : Nat) (tm : Tok) (as : List ArrRec) (s' : Shared) : Prop
  | mk (fd : Addr) (adj : Nat → List Nat) (f : Nat → Nat → Int) (vt vb ve vf vn vv vs vo vp vl : Option Value) (c : Int) (k : Nat) (tc : Tok) (n0 n1 : Nat) (items : List Value) (ns : List Int) (rest Z : List (Addr × Obj)) (e1 : TS s0 w g L b sc al lk ul fd n as adj f c k [] (LM l b al lk ul n tm fd vt vb ve vf vn vv vs vo vp vl) tc n0 n1 items ns rest Z s') : P_law_s5 s0 w g L l b sc al lk ul n tm as s'
theorem law_s5 {s0 : Shared} {w : World} {s : Shared} {g : Heap} {fa L l b sc al lk ul fd : Addr} {cv : Value} {n : Nat} {tm : Tok} {as : List ArrRec} {adj : Nat → List Nat} {f : Nat → Nat → Int} {tc : Tok} {n0 n1 : Nat} {items : List Value} {ns : List Int} {rest Z : List (Addr × Obj)} {vt vb ve vf vn vv vs vo vp vl : Option Value} {mean : ExcName → Option Value} {mg mb : Str → Option Value}
    (X : (Mine.hd.heap_1 w.params).In g) (T : Top Mine.view (looseW Mine.view [Str.ofString "SnobolError"]) mean mg mb g)
    (H : TS s0 w g L b sc al lk ul fd n as adj f 1 0 [] (LM l b al lk ul n tm fd vt vb ve vf vn vv vs vo vp vl) tc n0 n1 items ns rest Z s) :
    wpAny (model PySem.Challenge.rw_sj0194_01.row.prog w) ((AA 310 200).deeper (lawEnv L fa cv)) (exec (lawS 5) (lawEnv L fa cv)) (NextP (P_law_s5 s0 w g L l b sc al lk ul n tm as)) (fun _ _ => False) s := by
  dsimp only [lawEnv, lawS, lawBody, lawScope, lawP, mkLaw, gz, gs]
  revert T X; k_fill; intro X T
  k_with_none
  w_top off
  k_with "call ref" => refine Mine.stop ?_
  k_with "exec For Name Call cons nil" => refine Mine.stop ?_
  k_with "pyIter ref" => refine Mine.stop ?_
  k_whole
  (try k_fold)
  obtain ⟨F', N', hbs, off, hZ, hown, hI, hlen, S, K, sm⟩ := H
  change wpAny _ _ _ _ _ _
  with_unfolding_all refine' For_invVF (by k_asm) ?k1 ?k2 ?_ ?k3 PassesOwn.never
  case k1 => exact rfl
  case k2 => exact rfl
  case k3 => intro _; rfl
  k_steps
  change wpAny _ _ _ _ _ _
  refine use_take X T F' N' rfl (Nat.le_of_ble_eq_true rfl) (Nat.le_of_ble_eq_true rfl) hbs (fun p hp => (off p hp).1) (fun p hp => (off p hp).2) hI hlen (by decide) (by decide) (by decide) (by decide) ?_
  clear F' N' hI hlen
  rintro h' tk' x1 t1 u1 items1 ns1 m1 m2 a1 a2 hI hlen F' N'
  obtain ⟨x, rfl⟩ := Int.eq_ofNat_of_zero_le a1
  k_steps
  change wpAny _ _ _ _ _ _
  rename IsRange _ _ _ _ _ _ _ _ => R9
  rename Fr _ _ _ _ => F0
  rename News _ _ _ _ => N0
  have hx2 : (2 + (x : Int)) = ((2 + x : Nat) : Int) := by omega
  rw [hx2] at R9
  have hx4 : x < 4 := by omega
  refine iter_range (n := 2 + x) (fun i m nx => JT w l b sc al lk ul n tm as i m nx) rfl R9 (by omega) F0 N0 ?hj ?turn ?done
  case hj =>
    exact ⟨fd, adj, f, vt, vb, ve, vf, vn, vv, vs, vo, vp, vl, u1, m1, m2, items1, ns1, rest, Z, rfl, by simp, ⟨hbs, off, hZ, hI, hlen, S, K⟩⟩
  case done =>
    rintro m₁ nx h1 tk1 ⟨fd, adj, f, vt, vb, ve, vf, vn, vv, vs, vo, vp, vl, tc, n0, n1, items, ns, rest, Z, rfl, rfl, P⟩ F' N'
    exact nextP ⟨fd, adj, f, vt, vb, ve, vf, vn, vv, vs, vo, vp, vl, _, _, tc, n0, n1, items, ns, rest, Z, ⟨F', N', P.hbs, P.off, P.hZ, (fun q hq => nomatch hq), P.hints, P.len, P.S, P.K, sm⟩⟩
  case turn =>
    clear F0 N0 R9 hI hlen
    rintro i ti m₁ nx h1 tk1 own hin ⟨fd, adj, f, vt, vb, ve, vf, vn, vv, vs, vo, vp, vl, tc, n0, n1, items, ns, rest, Z, rfl, rfl, P⟩ hsep hcl F' N'
    rw [LM_turn] at F'
    have H : TS { s with heap := h1, toks := tk1 } w g L b sc al lk ul fd n as adj f (2 + 9 * (i : Int)) i own (LM l b al lk ul n tm fd (some (.int (i : Int) ti)) vb ve vf vn vv vs vo vp vl) tc n0 n1 items ns (rest ++ own) Z { s with heap := h1, toks := tk1 } :=
      ⟨F', N', P.hbs, fun p hp => (List.mem_append.mp hp).elim (P.off p) fun hp => ⟨Ne.symm (hsep _ (.head _) p hp), Ne.symm (hsep _ (.tail _ (.head _)) p hp)⟩, fun p hp => ⟨List.mem_append.mpr (.inl (P.hZ p hp).1), (P.hZ p hp).2⟩, fun q hq => List.mem_append.mpr (.inr hq), P.hints, P.len, P.S, P.K.more fun p hp => List.mem_append.mpr (.inl hp), ⟨rfl, rfl, rfl⟩⟩
    refine wpAny_mono (turn_all (fa := fa) (cv := cv) X T H (by omega) (by omega) (by omega) hcl) (fun fl s' hr => ?_) fun _ _ x => x
    obtain ⟨rfl, fd2, adj2, f2, vb2, ve2, vf2, vn2, vv2, vs2, vo2, vp2, vl2, tc2, n02, n12, items2, ns2, rest2, Z2, H2⟩ := hr
    obtain ⟨rest3, Z3, P3, hs3, ho3⟩ := ts_out H2 hcl
    have e9 : (2 + 9 * (i : Int) + 9) = 2 + 9 * ((i + 1 : Nat) : Int) := by omega
    have hs' : s' = { s with heap := s'.heap, toks := s'.toks } := by
      obtain ⟨b1, b2, b3⟩ := H2.sm
      cases s'
      simp only at b1 b2 b3
      subst b1 b2 b3
      rfl
    refine ⟨s'.heap, s'.toks, _, _, _, hs', H2.F, H2.N, fun p hp => ?_, fun q hq => .tail _ (.tail _ (H2.hown q hq)), ho3, fd2, adj2, f2, _, vb2, ve2, vf2, vn2, vv2, vs2, vo2, vp2, vl2, tc2, n02, n12, items2, ns2, rest3, Z3, rfl, by rw [e9], P3⟩
    rcases List.mem_cons.mp hp with rfl | hp
    · exact .head _
    rcases List.mem_cons.mp hp with rfl | hp
    · exact .tail _ (.head _)
    · exact .tail _ (.tail _ (hs3 p hp))
end
end Mine
end
section
open PySem PySem.W PyProof.Rows PySem.Calls PySem.Spec PyProof.V
namespace Mine
theorem Path.no_root {adj : Nat → List Nat} {p : List Nat} {x : Nat} (h : Path adj [] p x) : False := by
  induction h with
  | root h => cases h
  | step _ _ ih => exact ih
def RetTrue (s0 : Shared) (g : Heap) (L : Addr) (fl : Flow) (s : Shared) : Prop := fl = .ret (.bool true) ∧ SameS s0 s ∧ ∃ m, Fr g L s.heap m
section
local macro_rules | `(tactic| k_all) => `(tactic| assumption)
theorem law_s6 {s0 : Shared} {w : World} {s : Shared} {g : Heap} {fa L l b sc al lk ul fd : Addr} {cv : Value} {n : Nat} {tm : Tok} {as : List ArrRec} {adj : Nat → List Nat} {f : Nat → Nat → Int} {c : Int} {k : Nat} {tc : Tok} {n0 n1 : Nat} {items : List Value} {ns : List Int} {rest Z : List (Addr × Obj)} {vt vb ve vf vn vv vs vo vp vl : Option Value} {mean : ExcName → Option Value} {mg mb : Str → Option Value}
    (X : (Mine.hd.heap_1 w.params).In g) (T : Top Mine.view (looseW Mine.view [Str.ofString "SnobolError"]) mean mg mb g)
    (H : TS s0 w g L b sc al lk ul fd n as adj f c k [] (LM l b al lk ul n tm fd vt vb ve vf vn vv vs vo vp vl) tc n0 n1 items ns rest Z s) :
    wpAny (model PySem.Challenge.rw_sj0194_01.row.prog w) ((AA 310 200).deeper (lawEnv L fa cv)) (exec (lawS 6) (lawEnv L fa cv)) (RetTrue s0 g L) (fun _ _ => False) s := by
  dsimp only [lawEnv, lawS, lawBody, lawScope, lawP, mkLaw, gz, gs]
  revert T X; k_fill; intro X T
  k_with_none
  w_top off
  k_with "call ref" => refine Mine.stop ?_
  k_with "subscriptTail Name Constant ref int" => refine Mine.stop ?_
  k_whole
  (try k_fold)
  obtain ⟨F', N', hbs, off, hZ, hown, hI, hlen, S, K, sm⟩ := H
  have hn4 : n ≤ 4 := by have := S.hn; omega
  have hn3 : 3 ≤ n := by have := S.hn; omega
  have hasl := S.asl
  have hout := S.out
  obtain ⟨cal, hal⟩ := S.hal
  k_steps
  change wpAny _ _ _ _ _ _
  refine item1 (k := 0) (v := .ref (adOf as 0)) N' (.tail _ (.tail _ (hZ _ hal).1)) (by omega) (by omega) (al_item (i := 0) hasl (by omega)) ?_
  k_steps
  change wpAny _ _ _ _ _ _
  rename Fr _ _ _ _ => F1
  rename News _ _ _ _ => N1
  have G1 := S.graph (news_sub N1 fun q hq => .tail _ (.tail _ (.tail _ (hZ _ hq).1)))
  obtain ⟨il0, vs0, c0, k0, ts0, harr0, -⟩ := G1.node 0 (by omega)
  refine use_way (d := 400) (u := 400) F1 N1 rfl (Nat.le_of_ble_eq_true rfl) (Nat.le_of_ble_eq_true rfl) (way_to_spec (rs := [0]) (vs := [.ref (adOf as 0)]) (X.keeps F1.keep) (T.keeps F1.keep) G1 hn4 (N1 _ (.head _)).1 (by simp) (Slots.cons (as := [adOf as 0]) (.arr harr0) .nil) (fun r hr => by rw [List.mem_singleton.mp hr]; omega)) ?_ ?_
  case refine_2 =>
    intro its p x r h2 tk2 nn hits hp hx
    have := (hp.lt (n := n) (fun r hr => by rw [List.mem_singleton.mp hr]; omega) hout).1
    omega
  intro h2 tk2 hno F2 N2
  k_steps
  change wpAny _ _ _ _ _ _
  rename Fr _ _ _ _ => F3
  rename News _ _ _ _ => N3
  have G3 := S.graph (news_sub N3 fun q hq => .tail _ (.tail _ (.tail _ (.tail _ (hZ _ hq).1))))
  refine use_way (d := 400) (u := 400) F3 N3 rfl (Nat.le_of_ble_eq_true rfl) (Nat.le_of_ble_eq_true rfl) (way_to_spec (rs := []) (vs := [.int 5 _, .str (Str.ofString "") _]) (X.keeps F3.keep) (T.keeps F3.keep) G3 hn4 (N3 _ (.head _)).1 (by simp) (Slots.cons (as := []) .int (Slots.cons (as := []) .str .nil)) (fun r hr => nomatch hr)) ?_ ?_
  case refine_2 =>
    intro its p x r h2 tk2 nn hits hp hx
    exact hp.no_root.elim
  intro h4 tk4 hno4 F4 N4
  k_steps
  exact ⟨rfl, sm, _, F4⟩
end
theorem fr_eq {g h : Heap} {L : Addr} {m m' : Str → Option Value} (F : Fr g L h m) (e : m = m') : Fr g L h m' := e ▸ F
theorem law_walk {w : World} {s : Shared} {g : Heap} {fa l L : Addr} {cv : Value} {vs : List Value} {ns : List Int} {oc : Obj} {mean : ExcName → Option Value} {mg mb : Str → Option Value}
    (X : KIn w g) (T : TopAt mean mg mb g)
    (F : Fr g L s.heap (fun y => if y = Str.ofString "script" then some (.ref l) else none)) (N : News g L s.heap [(L + 1, oc)]) (hoc : oc.data = .cell none) (hl : g.IsList l vs.toArray) (hI : IntsAre vs ns) (hlen : vs.length ≤ 63) :
    wpAny (model prog0 w) ((AA 310 200).deeper (lawEnv L fa cv)) (execs lawBody (lawEnv L fa cv)) (RetTrue s g L) (fun _ _ => False) s := by
  rw [lawBody_eq]
  refine seq_next (law_s0 X T F N hoc hl hI hlen) ?_
  rintro s1 ⟨b, sc, wa, wd, hA, lk, od, olk, oc1, items, ns1, n0, n1, nh, tc, H0⟩
  refine seq_next (law_s1 X T H0) ?_
  rintro s2 ⟨items, ns2, n0, n1, tc, n, tm, H1⟩
  refine seq_next (law_s2 X T H1) ?_
  rintro s3 ⟨al, rest, as, H2⟩
  refine seq_next (law_s3 X T H2) ?_
  rintro s4 ⟨fd, ul, of, us, n2, H3⟩
  refine seq_next (law_s4 X T H3) ?_
  intro s5 H4
  obtain ⟨vo, vp, rest', Z', H5⟩ := ts_start H3 H4
  refine seq_next (law_s5 X T H5) ?_
  rintro s6 ⟨fd6, adj6, f6, vt, vb, ve, vf, vn, vv, vs6, vo6, vp6, vl, c6, k6, tc6, n06, n16, items6, ns6, rest6, Z6, H6⟩
  refine wpAny_execs_cons (wpAny_mono (law_s6 X T H6) (fun fl s' h => ?_) fun _ _ x => x)
  obtain ⟨rfl, h2⟩ := h
  exact ⟨rfl, h2⟩
end Mine
end
open PySem PySem.W PyProof.Rows PySem.Calls PySem.Spec PyProof.V
theorem PySem.Challenge.cw_sj0194_01_holds : PySem.Challenge.rw_sj0194_01.Holds :=
  Mine.hd (by
  k_go0
  (all_goals try k_fold)
  rename Fr _ _ _ _ => F
  rename News _ _ _ _ => N
  rename IntsAre _ _ => hI
  rename Heap.IsList _ _ _ => hL
  rename Frag.In _ _ => X
  rename Top _ _ _ _ _ _ => T
  rename _ = Data.cell _ => hoc
  rename ¬ (_ < _) => hc
  have hlen := IntsAre.length hI
  have hl63 := Nat.le_trans (k := 63) (Nat.le_of_eq hlen) (by omega)
  rename Shared => s1
  rename Heap => h9
  rename Nat => t9
  refine' wpAny_mono (E := fun _ _ => False) (Q := Mine.RetTrue { heap := h9, gens := s1.gens, drawn := s1.drawn, toks := t9, os := s1.os } s1.heap s1.heap.objs.size) ?hw ?hq (fun _ _ x => x.elim)
  case hw =>
    refine' Mine.weaken 311 203 rfl (Nat.le_of_ble_eq_true rfl) (Nat.le_of_ble_eq_true rfl) ?_
    have key := fun s L fa cv oc F N hoc => Mine.law_walk (s := s) (L := L) (fa := fa) (cv := cv) (oc := oc) X T F N hoc hL hI hl63
    unfold Mine.lawEnv Mine.lawBody Mine.lawScope Mine.lawP at key
    dsimp only [Mine.mkLaw] at key
    dsimp only at F N hoc ⊢
    refine key _ _ _ _ _ ?f N ?o
    case o =>
      rw [hoc]
      exact congrArg Data.cell (by with_unfolding_all rfl)
    case f =>
      refine Mine.fr_eq F ?_
      with_unfolding_all rfl
  case hq =>
    intro fl s' h
    obtain ⟨rfl, ⟨hg1, hg2, hg3⟩, m9, F9⟩ := h
    dsimp only [qk]
    exact goodW_bool F9 (by rw [hg1]; assumption) (by intro _; rfl) (by with_unfolding_all rfl) hg3)
