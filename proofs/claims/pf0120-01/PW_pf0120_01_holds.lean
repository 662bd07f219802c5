import PyProof.Rows.All
import Wide.All
import OpenK.AllK
import Wide.FinOn
import PyProof.ExcInit
import PyProof.ExcClass3
import KE.KTryDeep
import PyProof.ExcArgsOwn
import PyProof.ExcAttrAll.Exception
import Lean
import PySem.Challenge.RW_pf0120_01
open PySem PySem.W PyProof.Rows
set_option Elab.async false
set_option linter.unusedVariables false
set_option linter.unusedSimpArgs false
section
namespace Mine
/-- the statements that do not set the text's own name -/
def noName : Stmt → Bool
  | .Assign [.Name n _] _ _ => n != Str.ofString "__name__"
  | _ => true
def top : Program := (OpenRow.toRowW (OpenLaw.row PySem.Challenge.rw_pf0120_01)).1
def view : Program := { top with main := { top.main with body := top.main.body.filter noName } }
def runT (tb : String → Option Builtin) (p : Program) (w : World) (n₀ : Nat) (ann : Option Value) : Nat → SharedT → Thread → Option SharedT
  | 0, _, _ => none
  | n + 1, s, t => match through t with
    | true => some s
    | false => match stepOk n₀ ann t with
      | false => none
      | true => match stepT (denote tb) p w s t with
        | some (s', t') => runT tb p w n₀ ann n s' t'
        | none => none
theorem runT_of {tb : String → Option Builtin} {p : Program} {w : World} {n₀ : Nat} {ann : Option Value} : ∀ {n : Nat} {s s' : SharedT} {t : Thread}, runT tb p w n₀ ann n s t = some s' → topRun tb p w n₀ ann n s.abs t = some s'.abs
  | 0, _, _, _, h => by cases h
  | n + 1, s, s', t, h => by
    unfold runT at h
    unfold topRun
    cases he : through t with
    | true => rw [he] at h; cases h; rfl
    | false =>
      rw [he] at h
      cases hk : stepOk n₀ ann t with
      | false => rw [hk] at h; cases h
      | true =>
        rw [hk] at h
        cases hs : stepT (denote tb) p w s t with
        | none => rw [hs] at h; cases h
        | some r => obtain ⟨s₂, t₂⟩ := r; rw [hs] at h; rw [stepT_spec hs]; exact runT_of h
def fromT (p : Program) (w : World) (N : Nat) (s₀ : SharedT) : Option Shared :=
  match s₀.abs.heap.isNs mainGlobals && s₀.abs.gens.size == 0 with
  | true => (runT treeTable p w s₀.abs.heap.objs.size (s₀.abs.heap.nsMap mainGlobals "__annotations__") N s₀ (topStub p)).bind fun s₁ =>
      match staticsOk (importedModules p.main.body) s₀.abs.heap s₁.abs.heap && namesBound p s₁.abs.heap && gensDone s₁.abs && laidKept s₀.abs.heap s₁.abs.heap with
      | true => some s₁.abs
      | false => none
  | false => none
theorem fromT_of {p : Program} {w : World} {N : Nat} {s₀ : SharedT} {s : Shared} (h : fromT p w N s₀ = some s) : topFrom treeTable p w N s₀.abs = some s := by
  unfold fromT at h
  unfold topFrom
  cases he : s₀.abs.heap.isNs mainGlobals && s₀.abs.gens.size == 0 with
  | false => rw [he] at h; cases h
  | true =>
    rw [he] at h
    obtain ⟨s₁, h1, h2⟩ := Option.bind_eq_some_iff.mp h
    have h3 := runT_of h1
    dsimp only
    rw [h3]
    exact h2
def treeOf : Nat → List Obj → BT → BT
  | _, [], t => t
  | i, o :: l, t => treeOf (i + 1) l (t.ins i o)
noncomputable abbrev bootT (P : Params) (os : OsState) : SharedT := ⟨treeOf 0 (boot_heap P).objs.toList .nil, (boot_heap P).objs.size, (boot_heap P).life, Array.mk [], boot_drawn, boot_toks, os⟩
theorem bootT_abs (P : Params) (os : OsState) : (bootT P os).abs = ⟨boot_heap P, Array.mk [], boot_drawn, boot_toks, os⟩ := by kernel_rfl
theorem left_tree {p q : Program} {loose : List Str} {Xt : Shared → Bool} {α : Type} {Yf : Shared → α} {Ya : World → α} {N : Nat} {g0 : Bool}
    (open_ : ∀ w : World, (fencedOpening treeTable p w N).map (fun s => (s.heap, s.gens, s.drawn, s.toks)) = some (boot_heap w.params, Array.mk [], boot_drawn, boot_toks))
    (chk : ∀ (w : World) (os : OsState), (fromT p w N (bootT w.params os)).map (fun s => (openSeen q loose (importedModules p.main.body) Xt g0 s, Yf s)) = some (openGood q loose, Ya w)) : LeftO p q loose Xt Yf Ya N g0 := fun w => by
  obtain ⟨⟨h, gs, d, k, os⟩, e, e'⟩ := Option.map_eq_some_iff.mp (open_ w)
  obtain ⟨rfl, rfl, rfl, rfl⟩ : h = boot_heap w.params ∧ gs = Array.mk [] ∧ d = boot_drawn ∧ k = boot_toks := by simpa using e'
  obtain ⟨s₁, h1, h2⟩ := Option.map_eq_some_iff.mp (chk w os)
  have h3 := fromT_of h1
  rw [bootT_abs] at h3
  unfold openEnds
  rw [e]
  show (topFrom treeTable p w N _).map _ = _
  rw [h3]
  exact congrArg some h2
theorem boot9 : ∀ w : World, (fencedOpening treeTable top w 3846).map (fun s => (s.heap, s.gens, s.drawn, s.toks)) = some (boot_heap w.params, Array.mk [], boot_drawn, boot_toks) := boot_open (by kernel_rfl) (by decide) (fun s => by kernel_rfl)
set_option maxRecDepth 100000 in
set_option maxHeartbeats 8000000 in
theorem said9 : PySem.Challenge.rw_pf0120_01.wellSaid = true := by
  unfold OpenLaw.wellSaid
  repeat' (with_reducible refine look_both ?_ ?_)
  all_goals (try (unfold OpenRow.wellSaid OpenRow.partSaid looksOpen; repeat' (with_reducible refine look_both ?_ ?_)))
  all_goals decide +kernel
local macro_rules | `(tactic| o_head $H) => `(tactic| (refine holds_open (q := view) (loose := []) (Xt := fun s => xlAt view [] s && recOk (RowW.records (OpenRow.toRowW (OpenLaw.row PySem.Challenge.rw_pf0120_01))) s) (XP := XL view []) (Yf := Hook.obs $H) (Ya := Hook.val $H) (YP := Hook.says $H) (N := 3846) ?hl (Hook.of $H) (Hook.keeps $H) (fun s e => xl_of s (Bool.and_eq_true_iff.mp e).1) XL.keeps (by rfl) (by rfl) (by rfl) (fun s e => recFacts_of (Bool.and_eq_true_iff.mp e).2) (by rfl) (by first | assumption | decide +kernel) (by decide +kernel) ⟨rfl, rfl, rfl, rfl, rfl, by decide +kernel⟩ ?hw ?hc; (case hl => exact left_tree boot9 (fun w os => by kernel_rfl))))
local macro_rules | `(tactic| o_law) => `(tactic| (refine holds_law said9 fun said => ?_))
set_option maxRecDepth 100000 in
set_option maxHeartbeats 8000000 in
open_top hd for PySem.Challenge.rw_pf0120_01
end Mine
end
section
namespace Mine
inductive RV where
  | i (n : Int)
  | b (x : Bool)
  | s (x : Str)
def RV.val : RV → Tok → Value
  | .i n, t => .int n t
  | .b x, _ => .bool x
  | .s x, t => .str x t
structure Res where
  tag : Str
  v : RV
abbrev tup2 (u v : Value) : Obj := { cls := .type "tuple", data := .seq #[u, v] }
abbrev resObj (R : Res) (t t' : Tok) : Obj := tup2 (.str R.tag t) (R.v.val t')
theorem res_i {h₀ h : Heap} {L r : Addr} {R : Res} {g : Str} {n : Int} {t t' : Tok} {news : List (Addr × Obj)} (e : R = ⟨g, .i n⟩) (N : News h₀ L h ((r, tup2 (.str g t) (.int n t')) :: news)) : News h₀ L h ((r, resObj R t t') :: news) := by
  subst e; exact N
theorem res_b {h₀ h : Heap} {L r : Addr} {R : Res} {g : Str} {n : Bool} {t : Tok} {news : List (Addr × Obj)} (e : R = ⟨g, .b n⟩) (N : News h₀ L h ((r, tup2 (.str g t) (.bool n)) :: news)) : News h₀ L h ((r, resObj R t 0) :: news) := by
  subst e; exact N
theorem res_s {h₀ h : Heap} {L r : Addr} {R : Res} {g : Str} {n : Str} {t t' : Tok} {news : List (Addr × Obj)} (e : R = ⟨g, .s n⟩) (N : News h₀ L h ((r, tup2 (.str g t) (.str n t')) :: news)) : News h₀ L h ((r, resObj R t t') :: news) := by
  subst e; exact N
theorem news_skip {h₀ h : Heap} {L : Addr} {a b : Addr × Obj} {news : List (Addr × Obj)} (N : News h₀ L h (a :: b :: news)) : News h₀ L h (a :: news) := fun p hp => by
  rcases List.mem_cons.mp hp with rfl | hp
  · exact N _ (.head _)
  · exact N p (.tail _ (.tail _ hp))
theorem stripQ {σ : Type} {f : σ → Shared → Prop} {a : σ} {b : Shared} (h : f a b) : f a b := h
theorem news_top {h₀ h : Heap} {L : Addr} {p : Addr × Obj} {r news : List (Addr × Obj)} (N : News h₀ L h (p :: r)) (hs : ∀ q ∈ news, q ∈ r) : News h₀ L h (p :: news) := fun q hq => by
  rcases List.mem_cons.mp hq with rfl | hq
  · exact N _ (.head _)
  · exact N q (.tail _ (hs q hq))
theorem allLt_mem {d : Addr} {l : List (Addr × Obj)} (h : AllLt d l) : ∀ q ∈ l, q.1 < d := by
  induction l with
  | nil => intro q hq; exact absurd hq (List.not_mem_nil)
  | cons p r ih =>
    intro q hq
    rcases List.mem_cons.mp hq with e | hq
    · rw [e]; exact h.1
    · exact ih h.2 q hq
theorem allLt_app {d : Addr} {l r : List (Addr × Obj)} (h : AllLt d (l ++ r)) : ∀ q ∈ l, q.1 < d := fun q hq => allLt_mem h q (List.mem_append_left _ hq)
theorem ite_split {b : Bool} {p q : Prop} (h1 : b = true → p) (h2 : b = false → q) : if b = true then p else q := by
  cases b with
  | true => rw [if_pos rfl]; exact h1 rfl
  | false => rw [if_neg (by decide)]; exact h2 rfl
theorem news_rot {h₀ h : Heap} {L : Addr} {a b c : Addr × Obj} {news : List (Addr × Obj)} (N : News h₀ L h (c :: a :: b :: news)) : News h₀ L h (a :: b :: c :: news) := fun q hq => N q (by
  simp only [List.mem_cons] at hq ⊢
  rcases hq with q1 | q1 | q1 | q1 <;> simp [q1])
theorem news_rot4 {h₀ h : Heap} {L : Addr} {a b c d e f : Addr × Obj} {news : List (Addr × Obj)} (N : News h₀ L h (d :: e :: f :: a :: b :: c :: news)) : News h₀ L h (a :: b :: d :: e :: f :: c :: news) := fun q hq => N q (by
  simp only [List.mem_cons] at hq ⊢
  rcases hq with q1 | q1 | q1 | q1 | q1 | q1 | q1 <;> simp [q1])
def told : Str := Str.ofString "told"
def code : Str := Str.ofString "code"
end Mine
end
section
set_option maxRecDepth 100000
namespace Mine
section
variable {prog : Program} {w : World} {A : Around} {E : Value → Shared → Prop} {h : Heap} {g : Array GenState} {d : Drawn} {t : Nat} {os : OsState}
variable {nm q : Str} {C N : Addr} {bs bm : List Value} {hdct : Bool} {sn : List Str} {sub : List Value} {ab : Bool} {col : Option Bool} {dd : Option Addr} {k0 k1 k2 k3 k5 : Option Value}
abbrev excObj0 (C tp : Addr) : Obj := { cls := .ref C, dict := none, data := .fields #[.ref tp, .none, .none, .none, .bool false, .none] }
abbrev tupOf (vs : List Value) : Obj := { cls := .type "tuple", data := .seq vs.toArray }

theorem own_new_check {M : Model} (hC : h.get? C = some (excClassObj nm q C N bs bm hdct sn sub ab col dd k0 k1 k2 k3 k5 "Exception.__new__")) (cE : bm.contains (.type "Exception") = true) {rest : List Value} {Q : Unit → Shared → Prop}
    (hq : Q () ⟨h, g, d, t, os⟩) : wpAny M A (checkBuiltinCall "Exception.__new__" ⟨.ref C :: rest, []⟩) Q E ⟨h, g, d, t, os⟩ := by
  have Fn := PySem.F.excBase_Exception
  have hcont : (Value.ref C :: bm).contains (.type "Exception") = true := by rw [List.contains_cons, cE, Bool.or_true]
  have hstar := Fn.noStar
  simp only [checkBuiltinCall, Fn.newKind, Fn.newSplit, Fn.newRow]
  repeat (first | refine wpAny_loadPart_at hC ?_ | (refine wpAny_isSubtype_exc hC ?_; rw [hcont]) | refine wpAny_staticBase_exc hC ?_ | refine wpAny_madeBy_exc hC ?_ | simp only [bne_self_eq_false, Bool.false_eq_true, if_false] | wp_step)
  exact hq

theorem own_new {R : Result → Shared → Prop} (hC : h.get? C = some (excClassObj nm q C N bs bm hdct sn sub ab col dd k0 k1 k2 k3 k5 "Exception.__new__")) (cE : bm.contains (.type "Exception") = true)
    (cA : bm.contains (.type "AttributeError") = false) (cN : bm.contains (.type "NameError") = false) {rest : List Value}
    (hq : R (.ok (.ret (.ref (h.objs.size + 1)))) ⟨(h.push (tupOf rest)).push (excObj0 C h.objs.size), g, d, t, os⟩) (hrest : rest.length ≤ sizeLine) :
    codeAny (model prog w) A (.builtin "Exception.__new__" ⟨.ref C :: rest, []⟩) R ⟨h, g, d, t, os⟩ := by
  have Fn := PySem.F.excBase_Exception
  have hends := Fn.ends
  have hcB : (Value.ref C :: bm).contains (.type "Exception") = true := by rw [List.contains_cons, cE, Bool.or_true]
  have hcA : (Value.ref C :: bm).contains (.type "AttributeError") = false := by rw [List.contains_cons, cA]; rfl
  have hcN : (Value.ref C :: bm).contains (.type "NameError") = false := by rw [List.contains_cons, cN]; rfl
  refine codeAny_builtinAt Fn.entry ?_
  unfold Builtin.«BaseException.__new__»
  refine PySem.wpAt_bind ?_
  show PySem.wpAt _ _ _ (stack >>= _) _ _ _
  refine PySem.wpAt_bind (PySem.wpAt_stack fun p below => PySem.wpAt_of_wpAny ?_)
  wp_walk
  refine PySem.wpAt_of_wpAny ?_
  rw [Fn.owner]
  repeat (first | with_reducible refine wpAny_madeHere_exc Fn.canon hC ?_ | with_reducible refine wpAny_loadPart_at hC ?_ | (with_reducible refine wpAny_isSubtype_exc hC ?_; first | rw [hcB] | rw [hcA] | rw [hcN]) | wp_step)
  show R _ _
  rw [Heap.size_push]
  exact hq

theorem own_type_call {Q : Fin → Shared → Prop} {rest : List Value} {fI : Addr} {oI : Obj} (hC : h.get? C = some (excClassObj nm q C N bs bm hdct sn sub ab col dd k0 k1 k2 k3 k5 "Exception.__new__")) (cE : bm.contains (.type "Exception") = true)
    (cA : bm.contains (.type "AttributeError") = false) (cN : bm.contains (.type "NameError") = false) (hi : Looks (model prog w) h (typeLookup (.ref C) "__init__") (some (.ref fI))) (hfI : h.get? fI = some oI) (hfc : oI.cls = .type "function")
    (hq : wpAny (model prog w) A (call (.ref fI) (.ref (h.objs.size + 1) :: rest)) (fun r s' => r = .none ∧ Q (.done (.ret (.ref (h.objs.size + 1)))) s') E ⟨(h.push (tupOf rest)).push (excObj0 C h.objs.size), g, d, t, os⟩) (hrest : rest.length ≤ sizeLine) :
    wpAny (model prog w) A (Builtin.«type.__call__» ⟨.ref C :: rest, []⟩) Q E ⟨h, g, d, t, os⟩ := by
  have Fn := PySem.F.excBase_Exception
  repeat (first | with_reducible refine wpAny_loadPart_at hC ?_ | with_reducible refine wpAny_madeBy_exc hC ?_ | wp_step)
  refine codeAny_call_builtin_code (Code.quiet_builtin _ Fn.quiet) (own_new_check hC cE ?_)
  refine own_new hC cE cA cN ?_ hrest
  show wpAny _ _ _ _ _ _
  have hC₁ := Heap.get?_push_of_some (excObj0 C h.objs.size) (Heap.get?_push_of_some (tupOf rest) hC)
  have hfI₁ := Heap.get?_push_of_some (excObj0 C h.objs.size) (Heap.get?_push_of_some (tupOf rest) hfI)
  have hget : ((h.push (tupOf rest)).push (excObj0 C h.objs.size)).get? (h.objs.size + 1) = some (excObj0 C h.objs.size) := by heap_get
  have hcC : (Value.ref C :: bm).contains (.ref C) = true := by simp
  unfold isInstance
  repeat (first | with_reducible refine wpAny_loadPart_at hget ?_ | (with_reducible refine wpAny_isSubtype_exc hC₁ ?_; rw [hcC]) | wp_step)
  show wpAny _ _ (typeLookup (.ref C) _) _ _ _
  refine hi _ _ _ _ (fun b o e => Heap.get?_push_of_some _ (Heap.get?_push_of_some _ e)) ?_
  refine wpAny_holding (wpAny_bind ?_)
  unfold bindSpecial
  refine wpAny_bind (wpAny_typeOf (T := "function") ⟨_, hfI₁, hfc⟩ ?_)
  rw [if_pos (by decide)]
  refine wpAny_pure (wpAny_bind (wpAny_mono hq (fun r s' hr => ?_) fun _ _ x => x))
  obtain ⟨rfl, hQ⟩ := hr
  wp_walk
  exact hQ

theorem own_call {Q : Value → Shared → Prop} {rest : List Value} {fI : Addr} {oI : Obj} (hC : h.get? C = some (excClassObj nm q C N bs bm hdct sn sub ab col dd k0 k1 k2 k3 k5 "Exception.__new__")) (cE : bm.contains (.type "Exception") = true)
    (cA : bm.contains (.type "AttributeError") = false) (cN : bm.contains (.type "NameError") = false) (hi : Looks (model prog w) h (typeLookup (.ref C) "__init__") (some (.ref fI))) (hfI : h.get? fI = some oI) (hfc : oI.cls = .type "function")
    (hq : wpAny (model prog w) (A.under (.builtin "type.__call__" ⟨.ref C :: rest, []⟩)) (call (.ref fI) (.ref (h.objs.size + 1) :: rest)) (fun r s' => r = .none ∧ Q (.ref (h.objs.size + 1)) s') E ⟨(h.push (tupOf rest)).push (excObj0 C h.objs.size), g, d, t, os⟩) (hrest : rest.length ≤ sizeLine) :
    wpAny (model prog w) A (call (.ref C) rest) Q E ⟨h, g, d, t, os⟩ := by
  have f1 := tc_lookup
  have f2 := tc_bind (.ref C)
  have hT : (⟨h, g, d, t, os⟩ : Shared).TypeIs (.ref C) "type" := ⟨_, hC, rfl⟩
  refine wpAny_call (codeAny_of_tree ?_)
  show wpAny _ _ (callAny (.ref C) _) _ _ _
  repeat (any_goals (first | assumption | with_reducible refine wpAny_loadPart_at hC ?_ | wp_step))
  refine ⟨rfl, ?_⟩
  exact codeAny_call_builtin_at (Code.quiet_builtin _ (by decide +kernel)) entry_typeCall (wpAny_check_type_call_sub hC (own_type_call hC cE cA cN hi hfI hfc hq hrest))

/-- Exception.__init__(e, …): the arguments anew in the first field -/
theorem own_base_init {Q : Value → Shared → Prop} {rest : List Value} {e tp : Addr} (hC : h.get? C = some (excClassObj nm q C N bs bm hdct sn sub ab col dd k0 k1 k2 k3 k5 "Exception.__new__")) (cE : bm.contains (.type "Exception") = true)
    (he : h.get? e = some (excObj0 C tp)) (hrest : rest.length ≤ sizeLine)
    (hq : Q .none ⟨(h.push (tupOf rest)).update e (Obj.mapFields (·.setIfInBounds 0 (.ref h.objs.size))), g, d, t, os⟩) :
    wpAny (model prog w) A (call (.builtin "Exception.__init__") (.ref e :: rest)) Q E ⟨h, g, d, t, os⟩ := by
  have F := PySem.F.excBase_Exception
  have hcB : (Value.ref C :: bm).contains (.type "Exception") = true := by rw [List.contains_cons, cE, Bool.or_true]
  have hshort := F.noStar
  refine wpAny_call (codeAny_call_builtin F.init.plain F.initEntry ?_)
  simp only [checkBuiltinCall, F.initKind, F.initSplit, F.initRow]
  repeat (first | (with_reducible refine wpAny_loadPart_at he ?_) | with_reducible refine wpAny_loadPart_at hC ?_ | (with_reducible refine wpAny_isSubtype_exc hC ?_; rw [hcB]) | wp_step)
  refine wpAny_onRaise ?_
  rw [show ∀ (a b : String) (n : Nat), Bind.check ⟨.positional, "*", "Exception", .self, [⟨"args", .varPos, false⟩]⟩ a b n (List.map (fun x => x.fst) ({ pos := Value.ref e :: rest } : Args).kw) = pure () from
    fun a b n => check_star_args _ _ _ _ _ _]
  refine wpAny_pure ?_
  have he₁ := Heap.get?_push_of_some (tupOf rest) he
  wp_walk
  exact hq
end
end Mine
end
section
open PySem PySem.W PySem.Builtin PySem.Builtin.ObjectAttr PyProof.Rows
set_option maxRecDepth 100000
namespace Mine
section
variable {prog : Program} {w : World} {A : Around} {E : Value → Shared → Prop} {s : Shared} {K : Frag} {h₀ : Heap} {L C e D : Addr} {m : Str → Option Value} {post : List (Addr × Obj)} {es : List DictEntry} {n : Nat} {name : Str} {tk : Tok} {v : Value}

theorem st_dict {Q : Fin → Shared → Prop} (F : Fr h₀ L s.heap m) (N : News h₀ L s.heap ((D, dictOf es n) :: post)) (h2 : ∀ p ∈ post, p.1 ≠ D) (hl : (getL name es).isSome = true) (hz : es.length ≤ 900)
    (h : ∀ h', Fr h₀ L h' m → News h₀ L h' ((D, dictOf (putL name (PyData.keyHash w.params name) (.str name s.toks) v es) (putN name es n)) :: post) → Q (.done (.ret .none)) { s with heap := h', toks := s.toks + 1 }) :
    wpAny (model prog w) A (storeInDict D (.str name tk) name v) Q E s := by
  obtain ⟨U1, U2⟩ := news_upd (pre := []) (f := Obj.putName name (PyData.keyHash w.params name) (.str name s.toks) v) F N (by simp) h2 (putName_dict _ _ _ _ _ _) rfl
  have D0 := (N (D, dictOf es n) (by simp)).1
  have D1 := (U2 _ (List.mem_append_right _ (List.Mem.head _))).1
  unfold storeInDict newKeyGuard
  refine wpAny_bind (wpAny_pure (wpAny_bind ?_))
  unfold nsSet
  refine wpAny_bind (wpAny_bind (wpAny_askSetting (wpAny_pure (wpAny_bind (wpAny_mkText (wpAny_bind (wpAny_loadPart D0 ?_)))))))
  dsimp only
  have c : (!es.toArray.any (·.key.isStr name) && es.toArray.any (·.refKey)) = false := by
    rw [← Array.any_toList, ← Array.any_toList]
    unfold getL at hl
    split at hl
    · rename_i en he
      rw [List.any_eq_true.mpr ⟨en, List.mem_of_find?_eq_some he, List.find?_some he⟩]; rfl
    · split at hl
      · cases hl
      · rename_i z; rw [Bool.not_eq_true] at z; rw [z, Bool.and_false]
  rw [aRefKeyMayBeTheName_at, c]
  refine wpAny_updatePart D0 ?_
  refine wpAny_bind (wpAny_lookBehind D1 (pastItsLine_dict (by
    rw [List.size_toArray, sizeLine_eq]
    have : ∀ es : List DictEntry, (putL name (PyData.keyHash w.params name) (.str name s.toks) v es).length ≤ es.length + 1 := fun es => by
      induction es with
      | nil => exact Nat.le_refl _
      | cons a r ih =>
        unfold putL
        split
        · simp
        · simpa using ih
    have := this es
    omega)) ?_)
  exact wpAny_pure (h _ U1 U2)

theorem ox_open {ox : Obj} {cd : ClassData} {Q : Unit → Shared → Prop} (X : K.In s.heap) (hx : s.heap.get? e = some ox) (hc : ox.cls = .ref C) (hcd : clsIn K C = some cd) (hobj : cd.mro.contains (.type "object") = true)
    (hpass : refuseLoop (.ref e) "__setattr__" cd.mro = pure ()) (hs : findIn K (.ref C) "__setattr__" = some (some (.builtin "object.__setattr__"))) (hn : findIn K (.ref C) name = some none)
    (h : wpAny (model prog w) A.in1 (storeInOwnDict (.ref e) (.ref C) (.str name s.toks) name v false)
      (fun fin s' => match fin with | .done (.ret _) => Q () s' | _ => False) (fun e s' => E e s') { s with toks := s.toks + 1 }) :
    wpAny (model prog w) A (setAttr (.ref e) name v) Q E s := by
  have SF := PySem.F.store_object
  have T : Looks (model prog w) s.heap (typeOf (.ref e)) (.ref C) := hc ▸ (Looks.ld (part := some headPart) hx).andThen .now
  have ne : cd.mro.isEmpty = false := by cases q : cd.mro with | nil => rw [q] at hobj; cases hobj | cons _ _ => rfl
  have sub : Looks (model prog w) s.heap (isInstance (.ref e) (.type "object")) true := T.andThen (looks_mroIn X (by unfold mroIn; rw [hcd, Option.bind_some, if_neg (by rw [ne]; decide), hobj]))
  refine wpAny_bind (wpAny_mkText (wpAny_bind (wpAny_bind (wpAny_bind (T _ _ _ _ (fun _ _ e => e) (looks_findIn X hs _ _ _ _ (fun _ _ e => e) (wpAny_holding ?_)))))))
  rw [PySem.F.store_object.slot.bind]
  refine wpAny_bind (wpAny_pure (wpAny_bind (wpAny_call (codeAny_mono (R := fun r s' => match r with | .ok (.ret _) => Q () s' | .ok _ => False | .error e => E e s') ?_ fun r s' z => ?_))))
  · refine codeAny_call_builtin SF.slot.plain SF.entry (@check_slot (model prog w) _ _ _ "object.__setattr__" "object" "__setattr__" (.ref e) [.str name s.toks, v] [] _ SF.kind SF.split sub (SF.args (.ref e) (.str name s.toks) v) ?_)
    have hm : Looks (model prog w) s.heap (mroOf (.ref C)) cd.mro := (looks_clsIn X hcd).andThen .now
    show wpAny _ _ (Builtin.«object.__setattr__» ⟨[.ref e, .str name s.toks, v], []⟩) _ _ _
    rw [osa_eq, refuse_eq]
    refine wpAny_bind (wpAny_bind (T _ _ _ _ (fun _ _ e => e) (wpAny_bind (hm _ _ _ _ (fun _ _ e => e) ?_))))
    rw [hpass]
    refine wpAny_pure (wpAny_bind (T _ _ _ _ (fun _ _ e => e) (wpAny_bind (looks_findIn X hn _ _ _ _ (fun _ _ e => e) (wpAny_bind (wpAny_pure ?_))))))
    refine wpAny_mono h (fun fin s' z => ?_) fun _ _ y => y
    rcases fin with (r | c)
    · cases r <;> exact z
    · exact z.elim
  · rcases r with e | (v | _ | _ | _) <;> first | exact z | exact wpAny_pure (wpAny_pure z)
end
end Mine
end
section
open PySem PySem.W PySem.Builtin PySem.Builtin.ObjectAttr PyProof.Rows
set_option maxRecDepth 100000
namespace Mine
section
variable {prog : Program} {w : World} {A : Around} {E : Value → Shared → Prop} {s : Shared} {K : Frag} {h₀ : Heap} {L C e D : Addr} {m : Str → Option Value} {post : List (Addr × Obj)} {es : List DictEntry} {n : Nat} {name : Str} {tk : Tok} {v : Value}
abbrev excIn (C : Addr) (dd : Option Addr) (vs : Array Value) : Obj := { cls := .ref C, dict := dd, data := .fields vs }

theorem own_some {cd : ClassData} {vs : Array Value} {Q : Fin → Shared → Prop} (X : K.In s.heap) (hcd : clsIn K C = some cd) (hd : cd.hasDict = true)
    (F : Fr h₀ L s.heap m) (N : News h₀ L s.heap ((e, excIn C (some D) vs) :: (D, dictOf es n) :: post)) (hne : e ≠ D) (h2 : ∀ p ∈ post, p.1 ≠ D) (hl : (getL name es).isSome = true) (hz : es.length ≤ 900)
    (h : ∀ h', Fr h₀ L h' m → News h₀ L h' ((e, excIn C (some D) vs) :: (D, dictOf (putL name (PyData.keyHash w.params name) (.str name s.toks) v es) (putN name es n)) :: post) → Q (.done (.ret .none)) { s with heap := h', toks := s.toks + 1 }) :
    wpAny (model prog w) A (storeInOwnDict (.ref e) (.ref C) (.str name tk) name v false) Q E s := by
  have hx := (N _ (.head _)).1
  refine wpAny_bind (wpAny_pure (wpAny_bind (wpAny_bind (wpAny_loadPart hx (wpAny_bind (looks_clsIn X hcd _ _ _ _ (fun _ _ e => e) ?_))))))
  rw [hd]
  refine wpAny_pure (a := some D) ?_
  have N1 : News h₀ L s.heap ((D, dictOf es n) :: (e, excIn C (some D) vs) :: post) := fun q hq => N q (by
    simp only [List.mem_cons] at hq ⊢
    rcases hq with a | a | a
    · exact .inr (.inl a)
    · exact .inl a
    · exact .inr (.inr a))
  refine st_dict F N1 (fun p hp => ?_) hl hz fun h' F' N' => h h' F' fun q hq => N' q (by
    simp only [List.mem_cons] at hq ⊢
    rcases hq with a | a | a
    · exact .inr (.inl a)
    · exact .inl a
    · exact .inr (.inr a))
  rcases List.mem_cons.mp hp with rfl | hp
  · exact hne
  · exact h2 p hp

theorem own_none {cd : ClassData} {vs : Array Value} {Q : Fin → Shared → Prop} (X : K.In s.heap) (hcd : clsIn K C = some cd) (hd : cd.hasDict = true)
    (F : Fr h₀ L s.heap m) (N : News h₀ L s.heap ((e, excIn C none vs) :: post)) (h2 : ∀ p ∈ post, p.1 ≠ e)
    (h : ∀ h' D, Fr h₀ L h' m → (∀ p ∈ post, p.1 < D) → e < D → News h₀ L h' ((e, excIn C (some D) vs) :: (D, dictOf [⟨PyData.keyHash w.params name, .str name s.toks, v⟩] 1) :: post) → Q (.done (.ret .none)) { s with heap := h', toks := s.toks + 1 }) :
    wpAny (model prog w) A (storeInOwnDict (.ref e) (.ref C) (.str name tk) name v false) Q E s := by
  have hx := (N _ (.head _)).1
  refine wpAny_bind (wpAny_pure (wpAny_bind (wpAny_bind (wpAny_loadPart hx (wpAny_bind (looks_clsIn X hcd _ _ _ _ (fun _ _ e => e) ?_))))))
  rw [hd]
  have hx₁ : (s.heap.push (dictOf [] 0)).get? e = some (excIn C none vs) := Heap.get?_push_of_some _ hx
  have lt : e < s.heap.objs.size := Heap.lt_size hx
  refine wpAny_bind (wpAny_alloc' ?_)
  refine wpAny_bind (wpAny_update' hx₁ ?_)
  refine wpAny_pure (a := some s.heap.objs.size) ?_
  have F1 : Fr h₀ L (s.heap.push (dictOf [] 0)) m := by
    obtain ⟨⟨oL, es, ep, hL, r⟩, k, ab⟩ := F
    exact ⟨⟨oL, es, ep, Heap.get?_push_of_some _ hL, r⟩, fun b o q => Heap.get?_push_of_some _ (k b o q), ab⟩
  have nL : s.heap.objs.size ≠ L := fun q => by
    obtain ⟨oL, es, ep, hL, r⟩ := F.ns
    exact absurd (Heap.lt_size hL) (by rw [q]; exact Nat.lt_irrefl _)
  have n0 : h₀.get? s.heap.objs.size = none := by
    cases q : h₀.get? s.heap.objs.size with
    | none => rfl
    | some o => exact absurd (Heap.lt_size (F.keep _ _ q)) (Nat.lt_irrefl _)
  have N1 : News h₀ L (s.heap.push (dictOf [] 0)) ([(s.heap.objs.size, dictOf [] 0)] ++ (e, excIn C none vs) :: post) := fun q hq => by
    rcases List.mem_append.mp hq with hq | hq
    · obtain rfl := List.mem_singleton.mp hq
      exact ⟨Heap.get?_push_at rfl rfl, nL, n0⟩
    · exact ⟨Heap.get?_push_of_some _ (N q hq).1, (N q hq).2⟩
  obtain ⟨F2, N2⟩ := news_upd (pre := [(s.heap.objs.size, dictOf [] 0)]) (f := fun o => { o with dict := some s.heap.objs.size }) (o' := excIn C (some s.heap.objs.size) vs) F1 N1
    (fun p hp => by obtain rfl := List.mem_singleton.mp hp; exact Nat.ne_of_gt lt) h2 rfl rfl
  refine st_dict (n := 0) (es := []) F2 (by simpa using N2) (fun p hp => ?_) rfl (by simp) fun h' F' N' => h h' _ F' (fun p hp => Heap.lt_size (N p (.tail _ hp)).1) lt fun q hq => N' q (by
    simp only [List.mem_cons] at hq ⊢
    rcases hq with a | a | a
    · exact .inr (.inl a)
    · exact .inl a
    · exact .inr (.inr a))
  rcases List.mem_cons.mp hp with rfl | hp
  · exact Nat.ne_of_lt lt
  · exact Nat.ne_of_lt (Heap.lt_size (N p (.tail _ hp)).1)
end
end Mine
end
section
open PySem PySem.W PySem.Builtin PySem.Builtin.ObjectAttr PyProof.Rows
set_option maxRecDepth 100000
namespace Mine
abbrev bm63 : List Value := [.ref 31, .type "Exception", .type "BaseException", .type "object"]
theorem cls63 {w : World} {h : Heap} (X : (Mine.hd.heap_1 w.params).In h) : ∃ nm q N bs hdct sn sub ab col dd k0 k1 k2 k3 k5,
    h.get? 63 = some (excClassObj nm q 63 N bs bm63 hdct sn sub ab col dd k0 k1 k2 k3 k5 "Exception.__new__") := ⟨_, _, _, _, _, _, _, _, _, _, _, _, _, _, _, X 63 _ rfl⟩
theorem clsIn63 (P : Params) : ∃ cd, clsIn (Mine.hd.heap_1 P) 63 = some cd ∧ cd.mro = .ref 63 :: bm63 ∧ cd.hasDict = true := ⟨_, rfl, rfl, rfl⟩
theorem pass63 (x : Value) : refuseLoop x "__setattr__" (.ref 63 :: bm63) = pure () := by
  rw [refuseLoop_ref, refuseLoop_ref]
  exact PySem.F.store_Exception.passes x
theorem sa63 (P : Params) : findIn (Mine.hd.heap_1 P) (.ref 63) "__setattr__" = some (some (.builtin "object.__setattr__")) := by kernel_rfl
theorem in63 (P : Params) : findIn (Mine.hd.heap_1 P) (.ref 63) "__init__" = some (some (.ref 60)) := by kernel_rfl
theorem tx63 (P : Params) : findIn (Mine.hd.heap_1 P) (.ref 63) "text" = some none := by kernel_rfl
theorem co63 (P : Params) : findIn (Mine.hd.heap_1 P) (.ref 63) "code" = some none := by kernel_rfl
end Mine
end
section
open PySem PySem.W PySem.Builtin PySem.Builtin.ObjectAttr PyProof.Rows
set_option maxRecDepth 100000
namespace Mine
section
variable {prog : Program} {w : World} {A : Around} {E : Value → Shared → Prop} {s : Shared} {h₀ : Heap} {L e D tp : Addr} {m : Str → Option Value} {post : List (Addr × Obj)} {es : List DictEntry} {n : Nat} {name : Str} {v : Value}
abbrev fvs (tp : Addr) : Array Value := #[.ref tp, .none, .none, .none, .bool false, .none]
theorem set_fault0 {vs : Array Value} {Q : Unit → Shared → Prop} (F : Fr h₀ L s.heap m) (X₀ : (Mine.hd.heap_1 w.params).In h₀) (N : News h₀ L s.heap ((e, excIn 63 none vs) :: post)) (h2 : ∀ p ∈ post, p.1 ≠ e)
    (hn : findIn (Mine.hd.heap_1 w.params) (.ref 63) name = some none)
    (h : ∀ h' D tk tk', Fr h₀ L h' m → (∀ p ∈ post, p.1 < D) → e < D → News h₀ L h' ((e, excIn 63 (some D) vs) :: (D, dictOf [⟨PyData.keyHash w.params name, .str name tk, v⟩] 1) :: post) → Q () { s with heap := h', toks := tk' }) :
    wpAny (model prog w) A (setAttr (.ref e) name v) Q E s := by
  obtain ⟨cd, hcd, hm, hd⟩ := clsIn63 w.params
  have X := X₀.keeps F.keep
  refine ox_open X (N _ (.head _)).1 rfl hcd (by rw [hm]; decide) (by rw [hm]; exact pass63 _) (sa63 _) hn ?_
  exact own_none X hcd hd F N h2 fun h' D F' l1 l2 N' => h h' D _ _ F' l1 l2 N'

theorem set_fault1 {vs : Array Value} {Q : Unit → Shared → Prop} (F : Fr h₀ L s.heap m) (X₀ : (Mine.hd.heap_1 w.params).In h₀) (N : News h₀ L s.heap ((e, excIn 63 (some D) vs) :: (D, dictOf es n) :: post)) (hne : e ≠ D) (h2 : ∀ p ∈ post, p.1 ≠ D)
    (hn : findIn (Mine.hd.heap_1 w.params) (.ref 63) name = some none) (hl : (getL name es).isSome = true) (hz : es.length ≤ 900)
    (h : ∀ h' tk tk', Fr h₀ L h' m → News h₀ L h' ((e, excIn 63 (some D) vs) :: (D, dictOf (putL name (PyData.keyHash w.params name) (.str name tk) v es) (putN name es n)) :: post) → Q () { s with heap := h', toks := tk' }) :
    wpAny (model prog w) A (setAttr (.ref e) name v) Q E s := by
  obtain ⟨cd, hcd, hm, hd⟩ := clsIn63 w.params
  have X := X₀.keeps F.keep
  refine ox_open X (N _ (.head _)).1 rfl hcd (by rw [hm]; decide) (by rw [hm]; exact pass63 _) (sa63 _) hn ?_
  exact own_some X hcd hd F N hne h2 hl hz fun h' F' N' => h h' _ _ F' N'

theorem push_news {o : Obj} {news : List (Addr × Obj)} {h : Heap} (hf : o.isFreed = false) (F : Fr h₀ L h m) (N : News h₀ L h news) : Fr h₀ L (h.push o) m ∧ News h₀ L (h.push o) ((h.objs.size, o) :: news) := by
  refine ⟨?_, fun q hq => ?_⟩
  · obtain ⟨⟨oL, es, ep, hL, r⟩, k, ab⟩ := F
    exact ⟨⟨oL, es, ep, Heap.get?_push_of_some _ hL, r⟩, fun b o q => Heap.get?_push_of_some _ (k b o q), ab⟩
  · rcases List.mem_cons.mp hq with rfl | hq
    · refine ⟨Heap.get?_push_at rfl hf, fun q => ?_, ?_⟩
      · obtain ⟨oL, es, ep, hL, r⟩ := F.ns
        exact absurd (Heap.lt_size hL) (by rw [← q]; exact Nat.lt_irrefl _)
      · cases q : h₀.get? h.objs.size with
        | none => rfl
        | some o => exact absurd (Heap.lt_size (F.keep _ _ q)) (Nat.lt_irrefl _)
    · exact ⟨Heap.get?_push_of_some _ (N q hq).1, (N q hq).2⟩

theorem base_init_fault {Q : Value → Shared → Prop} {rest : List Value} (F : Fr h₀ L s.heap m) (X₀ : (Mine.hd.heap_1 w.params).In h₀) (N : News h₀ L s.heap ((e, excIn 63 none (fvs tp)) :: post)) (h2 : ∀ p ∈ post, p.1 ≠ e) (hrest : rest.length ≤ sizeLine)
    (h : ∀ h' tp', Fr h₀ L h' m → News h₀ L h' ((e, excIn 63 none (fvs tp')) :: post) → Q .none { s with heap := h' }) :
    wpAny (model prog w) A (call (.builtin "Exception.__init__") (.ref e :: rest)) Q E s := by
  have X := X₀.keeps F.keep
  obtain ⟨nm, q, N', bs, hdct, sn, sub, ab, col, dd, k0, k1, k2, k3, k5, hC⟩ := cls63 X
  obtain ⟨hp, g, d, tk, os⟩ := s
  refine own_base_init hC (by decide) (N _ (.head _)).1 hrest ?_
  obtain ⟨F1, N1⟩ := push_news (o := tupOf rest) rfl F N
  have lt : e < hp.objs.size := Heap.lt_size (N _ (.head _)).1
  obtain ⟨F2, N2⟩ := news_upd (pre := [(hp.objs.size, tupOf rest)]) (f := Obj.mapFields (·.setIfInBounds 0 (.ref hp.objs.size))) (o' := excIn 63 none (fvs hp.objs.size)) F1 N1
    (fun p hp => by obtain rfl := List.mem_singleton.mp hp; exact Nat.ne_of_gt lt) h2 rfl rfl
  exact h _ _ F2 fun q hq => N2 q (List.mem_append_right _ hq)

theorem call_fault {Q : Value → Shared → Prop} {rest : List Value} {news : List (Addr × Obj)} (F : Fr h₀ L s.heap m) (X₀ : (Mine.hd.heap_1 w.params).In h₀) (N : News h₀ L s.heap news) (hrest : rest.length ≤ sizeLine)
    (h : ∀ h' e tp, Fr h₀ L h' m → News h₀ L h' ((e, excIn 63 none (fvs tp)) :: news) → (∀ p ∈ news, p.1 < e) →
      wpAny (model prog w) (A.under (.builtin "type.__call__" ⟨.ref 63 :: rest, []⟩)) (call (.ref 60) (.ref e :: rest)) (fun r s' => r = .none ∧ Q (.ref e) s') E { s with heap := h' }) :
    wpAny (model prog w) A (call (.ref 63) rest) Q E s := by
  have X := X₀.keeps F.keep
  obtain ⟨nm, q, N', bs, hdct, sn, sub, ab, col, dd, k0, k1, k2, k3, k5, hC⟩ := cls63 X
  obtain ⟨o60, h60, c60⟩ : ∃ o, s.heap.get? 60 = some o ∧ o.cls = .type "function" := ⟨_, X 60 _ rfl, rfl⟩
  obtain ⟨hp, g, d, tk, os⟩ := s
  obtain ⟨F1, N1⟩ := push_news (o := tupOf rest) rfl F N
  obtain ⟨F2, N2⟩ := push_news (o := excObj0 63 hp.objs.size) rfl F1 N1
  rw [Heap.size_push] at N2
  refine own_call hC (by decide) (by decide) (by decide) (looks_findIn X (in63 _)) h60 c60 (h _ _ _ F2 (fun q hq => N2 q (by
    simp only [List.mem_cons] at hq ⊢
    rcases hq with a | a
    · exact .inl a
    · exact .inr (.inr a))) (fun p hp' => Nat.lt_succ_of_lt (Heap.lt_size (N p hp').1))) hrest
end
end Mine
end
section
namespace Mine

local macro_rules | `(tactic| walk_at "getMethod type:Exception") => `(tactic| (k_here; refine' method_type ?F ?X ?m (by decide +kernel) ?e ?h ?_; (case F => k_asm); (case X => k_asm); (case m => exact rfl); (case e => k_dflt k_is); (case h => k_handed)))
set_option maxRecDepth 100000 in
set_option maxHeartbeats 8000000 in
theorem f77_init {w : World} {p : Program} {loose : List Str} {mean : ExcName → Option Value} {mg mb : Str → Option Value}
    {dp un : Nat} {gd : Option (List Code)} {cn : Str} {cs : Scope} {a : Addr} {ccd : Value} {cl : List (Str × Addr)} {outer : List Env} {A₀ : Around} {base h₀ : Heap} {L : Addr} {m : Str → Option Value} {s : Shared} {Q E : Value → Shared → Prop}
    {x : Str} {t0 : Tok} {e tp : Addr} {news : List (Addr × Obj)}
    (B : Below A₀ base outer h₀) (F : Fr h₀ L s.heap m) (X : (Mine.hd.heap_1 w.params).In h₀) (N : News h₀ L s.heap ((e, excIn 63 none (fvs tp)) :: news)) (T : Top p loose mean mg mb h₀) (hk : cs.kind = .function)
    (ha : ∀ p ∈ news, p.1 ≠ e) (hdp : dp + 10 < recursionLimit) (hun : un ≤ 200)
    (hret : ∀ (h' : Heap) (D tp' : Addr) (tk tk' : Nat), Fr h₀ L h' m → News h₀ L h' ((e, excIn 63 (some D) (fvs tp')) :: (D, dictOf [⟨PyData.keyHash w.params "text", .str "text" tk, .str x t0⟩] 1) :: news) → (∀ p ∈ news, p.1 < D) → e < D → Q .none { s with heap := h', toks := tk' }) :
    wpAny (model PySem.Challenge.rw_pf0120_01.row.prog w) (ktrTop dp un gd cn cs L a ccd cl outer) (call (.ref 28) [.ref e, .str x t0]) Q E s := by
  revert X; k_fill; intro X
  refine wpAny_call ?_
  k_dflt cell_enter
  repeat' ((fail_if_success (with_reducible show Q _ _)); (fail_if_success (with_reducible show wpAny _ _ (setAttr _ _ _) _ _ _)); (fail_if_success (with_reducible show wpAny _ _ (call (Value.builtin _) _) _ _ _)); first | (k_unfold; (try dsimp only)) | (with_reducible refine stripQ ?_; k_unfold; (try dsimp only)) | (k_end; wrow_close) | walk1 | (dsimp only; walk1) | (leave1; walk_say "STEP leave1"; try dsimp only))
  k_dflt (refine' base_init_fault ?bF ?bX ?bN ?bA ?bR ?_)
  case bF => k_asm
  case bX => k_asm
  case bN => k_asm
  case bA => exact ha
  case bR => (show 1 ≤ sizeLine; rw [sizeLine_eq]; omega)
  intro h7 tp7 F7 N7
  repeat' ((fail_if_success (with_reducible show Q _ _)); (fail_if_success (with_reducible show wpAny _ _ (setAttr _ _ _) _ _ _)); (fail_if_success (with_reducible show wpAny _ _ (call (Value.builtin _) _) _ _ _)); first | (k_unfold; (try dsimp only)) | (with_reducible refine stripQ ?_; k_unfold; (try dsimp only)) | (k_end; wrow_close) | walk1 | (dsimp only; walk1) | (leave1; walk_say "STEP leave1"; try dsimp only))
  k_dflt (refine' set_fault0 ?sF ?sX ?sN ?sA ?sH ?_)
  case sF => k_asm
  case sX => k_asm
  case sN => k_asm
  case sA => exact ha
  case sH => exact tx63 _
  intro h8 D8 tk8 tk9 F8 l8 l9 N8
  repeat' ((fail_if_success (with_reducible show Q _ _)); (fail_if_success (with_reducible show wpAny _ _ (setAttr _ _ _) _ _ _)); (fail_if_success (with_reducible show wpAny _ _ (call (Value.builtin _) _) _ _ _)); first | (k_unfold; (try dsimp only)) | (with_reducible refine stripQ ?_; k_unfold; (try dsimp only)) | (k_end; wrow_close) | walk1 | (dsimp only; walk1) | (leave1; walk_say "STEP leave1"; try dsimp only))
  exact hret _ _ _ _ _ (by with_reducible assumption) (by with_reducible assumption) l8 l9
set_option maxRecDepth 100000 in
set_option maxHeartbeats 8000000 in
theorem io_init {w : World} {p : Program} {loose : List Str} {mean : ExcName → Option Value} {mg mb : Str → Option Value}
    {dp un : Nat} {gd : Option (List Code)} {cn : Str} {cs : Scope} {a : Addr} {ccd : Value} {cl : List (Str × Addr)} {outer : List Env} {A₀ : Around} {base h₀ : Heap} {L : Addr} {m : Str → Option Value} {s : Shared} {Q E : Value → Shared → Prop}
    {c : Int} {x : Str} {t0 t1 : Tok} {e tp : Addr} {news : List (Addr × Obj)}
    (B : Below A₀ base outer h₀) (F : Fr h₀ L s.heap m) (X : (Mine.hd.heap_1 w.params).In h₀) (N : News h₀ L s.heap ((e, excIn 63 none (fvs tp)) :: news)) (T : Top p loose mean mg mb h₀) (hk : cs.kind = .function)
    (ha : ∀ p ∈ news, p.1 ≠ e) (hdp : dp + 12 < recursionLimit) (hun : un ≤ 180)
    (hret : ∀ (h' : Heap) (D tp' : Addr) (tk1 tk2 tk' : Nat), Fr h₀ L h' m → News h₀ L h' ((e, excIn 63 (some D) (fvs tp')) :: (D, dictOf [⟨PyData.keyHash w.params "text", .str "text" tk1, .str x t0⟩, ⟨PyData.keyHash w.params "code", .str "code" tk2, .int c t1⟩] 2) :: news) → (∀ p ∈ news, p.1 < D) → e < D → Q .none { s with heap := h', toks := tk' }) :
    wpAny (model PySem.Challenge.rw_pf0120_01.row.prog w) (ktrTop dp un gd cn cs L a ccd cl outer) (call (.ref 60) [.ref e, .int c t1, .str x t0]) Q E s := by
  revert X; k_fill; intro X
  refine wpAny_call ?_
  k_dflt cell_enter
  repeat' ((fail_if_success (with_reducible show Q _ _)); (fail_if_success (with_reducible show wpAny _ _ (setAttr _ _ _) _ _ _)); (fail_if_success (with_reducible show wpAny _ _ (call (Value.ref 28) _) _ _ _)); first | (k_unfold; (try dsimp only)) | (with_reducible refine stripQ ?_; k_unfold; (try dsimp only)) | (k_end; wrow_close) | walk1 | (dsimp only; walk1) | (leave1; walk_say "STEP leave1"; try dsimp only))
  k_dflt (refine' f77_init ?fB ?fF ?fX ?fN ?fT ?fk ha ?fd ?fu ?fr)
  case fB => k_asm
  case fF => k_asm
  case fX => k_asm
  case fN => k_asm
  case fT => k_asm
  case fk => exact rfl
  case fd => (show dp + 1 + 10 < _; omega)
  case fu => (show un + 3 ≤ 200; omega)
  case fr =>
    intro h7 D7 tp7 tk7 tk8 F7 N7 l7 l8
    repeat' ((fail_if_success (with_reducible show Q _ _)); (fail_if_success (with_reducible show wpAny _ _ (setAttr _ _ _) _ _ _)); (fail_if_success (with_reducible show wpAny _ _ (call (Value.builtin _) _) _ _ _)); first | (k_unfold; (try dsimp only)) | (with_reducible refine stripQ ?_; k_unfold; (try dsimp only)) | (k_end; wrow_close) | walk1 | (dsimp only; walk1) | (leave1; walk_say "STEP leave1"; try dsimp only))
    k_dflt (refine' set_fault1 ?sF ?sX ?sN ?sA ?sB ?sH ?sl ?sz ?_)
    case sF => k_asm
    case sX => k_asm
    case sN => k_asm
    case sA => exact Nat.ne_of_lt l8
    case sB => exact fun p hp => Nat.ne_of_lt (l7 p hp)
    case sH => exact co63 _
    case sl => exact rfl
    case sz => (simp only [List.length_cons, List.length_nil]; omega)
    intro h9 tk9 tk10 F9 N9
    replace N9 : News _ _ _ ((e, excIn 63 (some D7) (fvs tp7)) :: (D7, dictOf [⟨PyData.keyHash w.params "text", .str "text" tk7, .str x t0⟩, ⟨PyData.keyHash w.params "code", .str "code" tk9, .int c t1⟩] 2) :: news) := N9
    repeat' ((fail_if_success (with_reducible show Q _ _)); (fail_if_success (with_reducible show wpAny _ _ (setAttr _ _ _) _ _ _)); (fail_if_success (with_reducible show wpAny _ _ (call (Value.builtin _) _) _ _ _)); first | (k_unfold; (try dsimp only)) | (with_reducible refine stripQ ?_; k_unfold; (try dsimp only)) | (k_end; wrow_close) | walk1 | (dsimp only; walk1) | (leave1; walk_say "STEP leave1"; try dsimp only))
    exact hret _ _ _ _ _ _ (by with_reducible assumption) (by with_reducible assumption) l7 l8
end Mine
end
section
namespace Mine
theorem mf_dict (o : Obj) (f) : (o.mapFields f).dict = o.dict := by
  obtain ⟨_, _, dt, _⟩ := o
  cases dt <;> rfl
/-- an exception on its way: B stays, its class and its dict are known, the flag of its last trace entry is fl -/
def AirD (B : Heap) (l : List Env) (e : Addr) (cls : Value) (dd : Option Addr) (fl : Value) (h : Heap) : Prop :=
  B.StaysIn h ∧ B.get? e = none ∧ h.FunFrames B l ∧ ∃ oe vs T oT ts, h.get? e = some oe ∧ oe.cls = cls ∧ oe.dict = dd ∧ oe.data = .fields vs ∧ vs[1]? = some (.ref T) ∧ B.get? T = none ∧ T ≠ e ∧
    h.get? T = some oT ∧ oT.data = .fields ts ∧ ts[3]? = some fl
section
variable {M : Model} {A : Around} {E : Value → Shared → Prop} {s : Shared} {B : Heap} {env : Env} {outer l : List Env} {L e : Addr} {cls : Value} {dd : Option Addr} {Q : Unit → Shared → Prop}

theorem entryD {oe : Obj} {vs : Array Value} {head : Value} {hadNext : Bool}
    (hfr : A.frames = some (env :: outer)) (hl : s.heap.FunFrames B (env :: outer)) (hf : env.frame = some L)
    (he : s.heap.get? e = some oe) (hkb : B.StaysIn s.heap) (hen : B.get? e = none) (hd : oe.data = .fields vs) (hsz : 1 < vs.size)
    (h : ∀ h', AirD B (env :: outer) e oe.cls oe.dict (rawInt L) h' → s.heap.UpToSlots h' → Q () { s with heap := h' }) :
    wpAny M A (do let a ← frameOf env; let pl ← entryPlaceOf L hadNext; let b ← EntryCells.newEntry head a .none (rawInt L) .none pl; setField (.ref e) 1 b) Q E s := by
  have out : e ∉ (env :: outer).filterMap (·.frame) := fun hm => by
    obtain ⟨_, o, ho, hnf⟩ := hl.mem hm
    rw [he] at ho
    cases ho
    exact hnf vs hd
  refine wpAny_bind (wpAny_frameOf_fun hfr hl hf fun h₁ hs₁ => ?_)
  refine wpAny_bind (wpAny_entryPlaceOf fun pl hpl => ?_)
  unfold EntryCells.newEntry newFields
  refine wpAny_bind (wpAny_newObj_type ?_ (hpl.sizeOk5 _ _ _ _ _))
  have e₁ : h₁.get? e = some oe := (hs₁.2.1 e out).trans he
  have k₁ : B.StaysIn h₁ := fun b o q => (hs₁.2.1 b fun hm => by rw [(hl.mem hm).1] at q; cases q).trans (hkb b o q)
  generalize hT : ({ cls := .type "traceback", dict := none, data := .fields ([head, .ref L, .none, rawInt L, .none] ++ (if pl.isEmpty then List.replicate 6 Value.none else pl)).toArray } : Obj) = oT
  have hTd : oT.data = .fields ([head, .ref L, .none, rawInt L, .none] ++ (if pl.isEmpty then List.replicate 6 Value.none else pl)).toArray := by rw [← hT]
  have hTf : oT.isFreed = false := Obj.isFreed_of_fields hTd
  have ne : h₁.objs.size ≠ e := Nat.ne_of_gt (Heap.lt_size e₁)
  have e₂ : (h₁.push oT).get? e = some oe := Heap.get?_push_of_some _ e₁
  have hd₃ := Obj.data_mapFields hd (·.setIfInBounds 1 (Value.ref h₁.objs.size))
  have keep : ∀ b o, b ≠ e → h₁.get? b = some o → ((h₁.push oT).update e (Obj.mapFields (·.setIfInBounds 1 (Value.ref h₁.objs.size)))).get? b = some o := fun b o hbe hb => by
    rw [Heap.get?_update_other _ _ (Ne.symm hbe)]
    exact Heap.get?_push_of_some _ hb
  have noE : ∀ b o, s.heap.get? b = some o → (∀ vs, o.data ≠ .fields vs) → b ≠ e := fun b o hb hnf q => by
    rw [q, he] at hb
    cases hb
    exact hnf vs hd
  have up : s.heap.UpToSlots ((h₁.push oT).update e (Obj.mapFields (·.setIfInBounds 1 (Value.ref h₁.objs.size)))) := fun b o hb hnf => by
    obtain ⟨sl, hs⟩ := hs₁.2.2 b o hb
    exact ⟨sl, keep b _ (noE b o hb hnf) hs⟩
  refine wpAny_setField e₂ hd hsz (h _ ⟨fun b o q => keep b o (fun z => by rw [z, hen] at q; cases q) (k₁ b o q), hen, hl.of_keeps fun b o hb hnf => ?_,
    _, _, h₁.objs.size, oT, _, Heap.get?_update_self _ e₂ (Obj.isFreed_of_fields hd₃), Obj.cls_mapFields _ _, mf_dict _ _, hd₃, by simp [hsz], k₁.fresh, ne,
    (Heap.get?_update_other _ _ (Ne.symm ne)).trans (Heap.get?_push_size h₁ hTf), hTd, ?_⟩ up)
  · obtain ⟨sl, hs⟩ := up b o hb hnf
    exact ⟨_, hs, rfl⟩
  · rcases hpl with rfl | ⟨_, _, _, _, _, _, _, rfl⟩ <;> simp

/-- the first noting, at the frame that raises -/
theorem noteD_first {oe : Obj} {vs : Array Value}
    (hfr : A.frames = some (env :: outer)) (hl : s.heap.FunFrames B (env :: outer)) (hf : env.frame = some L)
    (he : s.heap.get? e = some oe) (hkb : B.StaysIn s.heap) (hen : B.get? e = none) (hd : oe.data = .fields vs) (h1 : vs[1]? = some .none)
    (h : ∀ h', AirD B (env :: outer) e oe.cls oe.dict (rawInt L) h' → s.heap.UpToSlots h' → Q () { s with heap := h' }) : wpAny M A (noteFrame (.ref e) env) Q E s := by
  unfold noteFrame
  simp only [hf]
  refine wpAny_bind (wpAny_field he hd h1 ?_)
  rw [if_neg (by decide)]
  exact entryD hfr hl hf he hkb hen hd (Array.getElem?_eq_some_iff.mp h1).1 h

theorem noteD_next (hfr : A.frames = some (env :: outer)) (hf : env.frame = some L) (ht : AirD B (env :: outer) e cls dd .none s.heap)
    (h : ∀ h', AirD B (env :: outer) e cls dd (rawInt L) h' → s.heap.UpToSlots h' → Q () { s with heap := h' }) : wpAny M A (noteFrame (.ref e) env) Q E s := by
  obtain ⟨hkb, hen, hl, oe, vs, T, oT, ts, he, hcls, hdd, hd, h1, hnT, hTe, hT, hdT, h3⟩ := ht
  subst hcls hdd
  unfold noteFrame
  simp only [hf]
  refine wpAny_bind (wpAny_field he hd h1 ?_)
  rw [if_pos (show (Value.ref T != Value.none) = true from by simp)]
  refine wpAny_bind (wpAny_field hT hdT h3 ?_)
  rw [if_neg (show ¬ ((Value.none == rawInt L) = true) from by simp [rawInt])]
  refine wpAny_bind (wpAny_setField hT hdT (Array.getElem?_eq_some_iff.mp h3).1 ?_)
  have other : ∀ b, b ≠ T → (s.heap.update T (Obj.mapFields (·.setIfInBounds 3 Value.none))).get? b = s.heap.get? b := fun b hb => Heap.get?_update_other _ _ (Ne.symm hb)
  have noT : ∀ b o, s.heap.get? b = some o → (∀ vs, o.data ≠ .fields vs) → b ≠ T := fun b o hb hnf q => by
    rw [q, hT] at hb
    cases hb
    exact hnf ts hdT
  exact entryD hfr (hl.of_keeps fun b o hb hnf => ⟨o, (other b (noT b o hb hnf)).trans hb, rfl⟩) hf ((other e (Ne.symm hTe)).trans he)
    (fun b o q => (other b fun z => by rw [z, hnT] at q; cases q).trans (hkb b o q)) hen hd (Array.getElem?_eq_some_iff.mp h1).1
    fun h' a u => h h' a fun b o hb hnf => u b o ((other b (noT b o hb hnf)).trans hb) hnf

theorem noteD_again {Q : Unit → Shared → Prop} (hf : env.frame = some L) (ht : AirD B l e cls dd (rawInt L) s.heap) (h : Q () s) : wpAny M A (noteFrame (.ref e) env) Q E s := by
  obtain ⟨hkb, hen, hl, oe, vs, T, oT, ts, he, hcls, hdd, hd, h1, hnT, hTe, hT, hdT, h3⟩ := ht
  unfold noteFrame
  simp only [hf]
  refine wpAny_bind (wpAny_field he hd h1 ?_)
  rw [if_pos (show (Value.ref T != Value.none) = true from by simp)]
  refine wpAny_bind (wpAny_field hT hdT h3 ?_)
  rw [if_pos (show (rawInt L == rawInt L) = true from by simp)]
  exact wpAny_pure h

theorem flightD {fl : Value} (ht : AirD B l e cls dd fl s.heap)
    (h : ∀ h', AirD B l e cls dd .none h' → s.heap.UpToSlots h' → Q () { s with heap := h' }) : wpAny M A (setFlight (.ref e) none) Q E s := by
  obtain ⟨hkb, hen, hl, oe, vs, T, oT, ts, he, hcls, hdd, hd, h1, hnT, hTe, hT, hdT, h3⟩ := ht
  have hsz3 : 3 < ts.size := (Array.getElem?_eq_some_iff.mp h3).1
  have other : ∀ b, b ≠ T → (s.heap.update T (Obj.mapFields (·.setIfInBounds 3 ((none : Option Addr).elim Value.none fun f => rawInt f)))).get? b = s.heap.get? b :=
    fun b hb => Heap.get?_update_other _ _ (Ne.symm hb)
  have noT : ∀ b o, s.heap.get? b = some o → (∀ vs, o.data ≠ .fields vs) → b ≠ T := fun b o hb hnf q => by
    rw [q, hT] at hb
    cases hb
    exact hnf ts hdT
  unfold setFlight
  refine wpAny_bind (wpAny_field he hd h1 ?_)
  rw [if_pos (show (Value.ref T != Value.none) = true from by simp)]
  refine wpAny_setField hT hdT hsz3 (h _ ⟨fun b o q => (other b fun z => by rw [z, hnT] at q; cases q).trans (hkb b o q), hen,
    hl.of_keeps fun b o hb hnf => ⟨o, (other b (noT b o hb hnf)).trans hb, rfl⟩, oe, vs, T, _, _, (other e (Ne.symm hTe)).trans he, hcls, hdd, hd, h1, hnT, hTe,
    Heap.get?_update_self _ hT (Obj.isFreed_of_fields (Obj.data_mapFields hdT _)), Obj.data_mapFields hdT _, by simp [hsz3]⟩ fun b o hb hnf => ⟨o.slots, (other b (noT b o hb hnf)).trans hb⟩)

theorem AirD.pop {fl : Value} {h : Heap} (x : AirD B (env :: outer) e cls dd fl h) : AirD B outer e cls dd fl h := ⟨x.1, x.2.1, x.2.2.1.2.2, x.2.2.2⟩

theorem leaveD_first {oe : Obj} {vs : Array Value}
    (hfr : A.frames = some (env :: outer)) (hl : s.heap.FunFrames B (env :: outer)) (hf : env.frame = some L)
    (he : s.heap.get? e = some oe) (hkb : B.StaysIn s.heap) (hen : B.get? e = none) (hd : oe.data = .fields vs) (h1 : vs[1]? = some .none)
    (h : ∀ h', AirD B outer e oe.cls oe.dict .none h' → s.heap.UpToSlots h' → Q () { s with heap := h' }) : wpAny M A (leaving env (.ref e)) Q E s := by
  unfold leaving
  exact wpAny_bind (noteD_first hfr hl hf he hkb hen hd h1 fun h₁ a₁ u₁ => flightD a₁ fun h₂ a₂ u₂ => h h₂ a₂.pop (u₁.trans u₂))
theorem leaveD_next (hfr : A.frames = some (env :: outer)) (hf : env.frame = some L) (ht : AirD B (env :: outer) e cls dd .none s.heap)
    (h : ∀ h', AirD B outer e cls dd .none h' → s.heap.UpToSlots h' → Q () { s with heap := h' }) : wpAny M A (leaving env (.ref e)) Q E s := by
  unfold leaving
  exact wpAny_bind (noteD_next hfr hf ht fun h₁ a₁ u₁ => flightD a₁ fun h₂ a₂ u₂ => h h₂ a₂.pop (u₁.trans u₂))
end
end Mine
end
section
open PySem PySem.W PySem.Calls PyProof.Rows
namespace Mine
def RaisedD (base G : Heap) (l : List Env) (e : Addr) (cls : Value) (D : Addr) (news : List (Addr × Obj)) (h : Heap) : Prop :=
  ∃ B, base.StaysIn B ∧ (∀ b o, G.get? b = some o → b ∉ l.filterMap (·.frame) → B.get? b = some o) ∧ (∀ q ∈ news, B.get? q.1 = some q.2 ∧ G.get? q.1 = none ∧ base.get? q.1 = none) ∧
    AirD B l e cls (some D) .none h
theorem RaisedD.down {base G G' : Heap} {l : List Env} {e D : Addr} {cls : Value} {news : List (Addr × Obj)} {h : Heap} (x : RaisedD base G l e cls D news h) (k : ∀ b o, G'.get? b = some o → G.get? b = some o) :
    RaisedD base G' l e cls D news h :=
  let ⟨B, a, b, c, d⟩ := x
  ⟨B, a, fun q o e n => b q o (k q o e) n, fun q hq => ⟨(c q hq).1, kts_none k (c q hq).2.1, (c q hq).2.2⟩, d⟩

theorem belowX {A : Around} {base h₀ h : Heap} {outer : List Env} {L a : Addr} {m : Str → Option Value} {name : Str} {scope : Scope} {cd : Value} {cl : List (Str × Addr)}
    (K : Below A base outer h₀) (F : Fr h₀ L h m) (hk : scope.kind = .function) : Below (A.deeper (envX name scope L a cd cl)) base (envX name scope L a cd cl :: outer) h := by
  have hnew : base.get? L = none := by
    cases hq : base.get? L with
    | none => rfl
    | some o => exact absurd (Nat.lt_of_lt_of_le (Heap.lt_size (K.stays L o hq)) F.above) (Nat.lt_irrefl _)
  refine ⟨Around.frames_deeper K.stack, fun b o e => F.keep b o (K.stays b o e), ?_⟩
  exact .cons (by show scope.kind ≠ .module; rw [hk]; decide) rfl F.ns hnew (K.frames.of_keeps fun b o e _ => ⟨o, F.keep b o e, rfl⟩)

section
variable {M : Model} {A : Around} {E : Value → Shared → Prop} {s' : Shared} {base g g₂ : Heap} {outer : List Env} {L a e D : Addr} {m : Str → Option Value} {name : Str} {scope : Scope} {cd : Value} {cl : List (Str × Addr)}
  {Q : Unit → Shared → Prop} {news : List (Addr × Obj)} {cls : Value}

theorem memX {b : Addr} (hm : b ∈ (envX name scope L a cd cl :: outer).filterMap (·.frame)) : b = L ∨ b ∈ outer.filterMap (·.frame) := by
  obtain ⟨env, he, hf⟩ := List.mem_filterMap.mp hm
  rcases List.mem_cons.mp he with rfl | he
  · exact .inl (Option.some.inj hf).symm
  · exact .inr (List.mem_filterMap.mpr ⟨env, he, hf⟩)

theorem leave_raiseD {oe : Obj} {vs : Array Value} (K : Below A base outer g) (F : Fr g L s'.heap m) (N : News g L s'.heap news) (Ne : News g L s'.heap [(e, oe)]) (hne : ∀ q ∈ news, q.1 ≠ e)
    (hc : oe.cls = cls) (hdd : oe.dict = some D) (hd : oe.data = .fields vs) (h1 : vs[1]? = some .none) (hk : scope.kind = .function)
    (hQ : ∀ h', RaisedD base g outer e cls D news h' → s'.heap.UpToSlots h' → Q () { s' with heap := h' }) :
    wpAny M (A.deeper (envX name scope L a cd cl)) (leaving (envX name scope L a cd cl) (.ref e)) Q E s' := by
  subst hc
  have K' := belowX (name := name) (a := a) (cd := cd) (cl := cl) K F hk
  have hin : ∀ env ∈ (envX name scope L a cd cl :: outer), ∀ b, env.frame = some b → b ∈ e :: (envX name scope L a cd cl :: outer).filterMap (·.frame) := fun env he b hb => .tail _ (List.mem_filterMap.mpr ⟨env, he, hb⟩)
  have en := Ne _ (.head _)
  have oute : e ∉ (envX name scope L a cd cl :: outer).filterMap (·.frame) := fun hm => by
    obtain ⟨_, o, ho, hnf⟩ := K'.frames.mem hm
    have := ho.symm.trans en.1
    cases this
    exact hnf _ hd
  have st : base.StaysIn (hideAll s'.heap (e :: (envX name scope L a cd cl :: outer).filterMap (·.frame))) := fun b o q => hideAll_get _ (K'.stays b o q) fun hm => by
    rcases List.mem_cons.mp hm with z | hm
    · rw [z] at q
      have := F.keep _ _ (K.stays _ _ q)
      have n := en.2.2
      rw [K.stays _ _ q] at n
      cases n
    · rw [(K'.frames.mem hm).1] at q
      cases q
  have sg : ∀ b o, g.get? b = some o → b ∉ outer.filterMap (·.frame) → (hideAll s'.heap (e :: (envX name scope L a cd cl :: outer).filterMap (·.frame))).get? b = some o := fun b o q nm => hideAll_get _ (F.keep b o q) fun hm => by
    rcases List.mem_cons.mp hm with z | hm
    · rw [z, en.2.2] at q
      cases q
    · rcases memX hm with z | z
      · rw [z, kts_self F] at q
        cases q
      · exact nm z
  have hl : ∀ q ∈ news, (hideAll s'.heap (e :: (envX name scope L a cd cl :: outer).filterMap (·.frame))).get? q.1 = some q.2 ∧ g.get? q.1 = none ∧ base.get? q.1 = none := fun q hq => by
    refine ⟨hideAll_get _ (N q hq).1 fun hm => ?_, (N q hq).2.2, kts_none K.stays (N q hq).2.2⟩
    rcases List.mem_cons.mp hm with z | hm
    · exact hne q hq z
    · rcases memX hm with z | z
      · exact (N q hq).2.1 z
      · obtain ⟨_, o, ho, _⟩ := K.frames.mem z
        have n := (N q hq).2.2
        rw [ho] at n
        cases n
  refine leaveD_first K'.stack (funFrames_hide K'.frames hin) rfl en.1 (fun b o q => of_hideAll _ q) (hideAll_none _ (.head _)) hd h1 fun h' x u => ?_
  rw [hdd] at x
  exact hQ h' ⟨_, st, sg, hl, x⟩ u

theorem leave_onD (K : Below A base outer g) (F : Fr g L g₂ m) (R : RaisedD base g₂ (envX name scope L a cd cl :: outer) e cls D news s'.heap)
    (hQ : ∀ h', RaisedD base g outer e cls D news h' → s'.heap.UpToSlots h' → Q () { s' with heap := h' }) :
    wpAny M (A.deeper (envX name scope L a cd cl)) (leaving (envX name scope L a cd cl) (.ref e)) Q E s' := by
  obtain ⟨B, hB, hBG, hl, hfl⟩ := R
  refine leaveD_next (Around.frames_deeper K.stack) rfl hfl fun h' x u => hQ h' ⟨B, hB, fun b o q nm => hBG b o (F.keep b o q) (fun hm => ?_), fun q hq => ⟨(hl q hq).1, kts_none F.keep (hl q hq).2.1, (hl q hq).2.2⟩, x⟩ u
  rcases memX hm with z | z
  · rw [z, kts_self F] at q
    cases q
  · exact nm z
end

section
variable {A₀ : Around} {base g B h₅ : Heap} {outer : List Env} {L : Addr} {m : Str → Option Value}
/-- the ground of the catching frame after the flight: the frames below have other slots -/
theorem groundD {G : Heap} (K : Below A₀ base outer g) (F : Fr g L G m) (hBG : ∀ b o, g.get? b = some o → b ∉ outer.filterMap (·.frame) → B.get? b = some o) (hBh : B.StaysIn h₅) (hsm : G.UpToSlots h₅) :
    ∃ g', KtsTurn (outer.filterMap (·.frame)) g g' ∧ Fr g' L h₅ m ∧ Below A₀ base outer g' := by
  obtain ⟨T, S⟩ := kts_turn_at (h := h₅) (fs := outer.filterMap (·.frame)) (g := g)
    (fun b hb => by
      obtain ⟨_, o, ho, _⟩ := K.frames.mem hb
      exact ⟨o, ho⟩)
    (fun b o e nm => hBh b o (hBG b o e nm))
    (fun b o e hm => by
      obtain ⟨_, o', ho', hd⟩ := K.frames.mem hm
      rw [e] at ho'
      cases ho'
      exact hsm b o (F.keep b o e) hd)
  refine ⟨_, T, ⟨hsm.ns F.ns, S, by rw [T.size]; exact F.above⟩, ⟨K.stack, fun b o e => T.other b o (K.stays b o e) (fun hm => by
    rw [(K.frames.mem hm).1] at e
    cases e), K.frames.of_keeps fun b o e _ => ?_⟩⟩
  obtain ⟨sl, hs⟩ := T.up e
  exact ⟨_, hs, rfl⟩
end
end Mine
end
section
namespace Mine

/-- where a raise of the fault ends: the exception is there, and goes on its way -/
def RaiseEnd (E : Value → Shared → Prop) (v : Value) (s : Shared) : Prop := ∃ e D tp, v = .ref e ∧ (∃ nm q N bs hdct sn sub ab col dd k0 k1 k2 k3 k5, s.heap.get? 63 = some (excClassObj nm q 63 N bs bm63 hdct sn sub ab col dd k0 k1 k2 k3 k5 "Exception.__new__")) ∧
  s.heap.get? e = some (excIn 63 (some D) (fvs tp)) ∧ E (.ref e) s
section
variable {M : Model} {A : Around} {E : Value → Shared → Prop} {s : Shared} {env : Env}
theorem raise_made {x : Sem Value} {Q : Flow → Shared → Prop} (hh : A.handled = none) (h : wpAny M A x (RaiseEnd E) E s) : wpAny M A (raiseStmt env (some x) none) Q E s := by
  unfold raiseStmt
  refine wpAny_bind (wpAny_mono h (fun v s₁ h₁ => ?_) fun _ _ x => x)
  obtain ⟨e, D, tp, rfl, ⟨nm, q, N, bs, hdct, sn, sub, ab, col, dd, k0, k1, k2, k3, k5, hC⟩, he, hE⟩ := h₁
  obtain ⟨hp, g, d, tk, os⟩ := s₁
  have hcB : (Value.ref 63 :: bm63).contains (.type "BaseException") = true := by decide
  repeat (first | with_reducible refine wpAny_loadPart_at he ?_ | with_reducible refine wpAny_loadPart_at hC ?_ | (with_reducible refine wpAny_isSubtype_exc hC ?_; rw [hcB]) | wp_step)
  exact wpAny_raiseNew_none hh hE
theorem raise_walk {x : Expr} {pos : Pos} {Q : Flow → Shared → Prop} (hh : A.handled = none) (h : wpAny M A (eval x env) (RaiseEnd E) E s) : wpAny M A (exec (.Raise (some x) none pos) env) Q E s := by
  rw [arm_exec_Raise]
  exact wpAny_bind (wpAny_standAt (raise_made hh (wpAny_bind (wpAny_mono h (fun v s h => wpAny_bind (wpAny_standAt (wpAny_pure h))) fun _ _ x => x))))
end
set_option maxRecDepth 100000 in
set_option maxHeartbeats 8000000 in
theorem fault_ct {w : World} {p : Program} {loose : List Str} {mean : ExcName → Option Value} {mg mb : Str → Option Value}
    {dp un : Nat} {gd : Option (List Code)} {cn : Str} {cs : Scope} {a : Addr} {ccd : Value} {cl : List (Str × Addr)} {outer : List Env} {A₀ : Around} {base h₀ : Heap} {L : Addr} {m : Str → Option Value} {s : Shared} {Q E : Value → Shared → Prop}
    {c : Int} {x : Str} {t0 t1 : Tok} {news : List (Addr × Obj)}
    (B : Below A₀ base outer h₀) (F : Fr h₀ L s.heap m) (X : (Mine.hd.heap_1 w.params).In h₀) (N : News h₀ L s.heap news) (T : Top p loose mean mg mb h₀) (hk : cs.kind = .function)
    (hdp : dp + 14 < recursionLimit) (hun : un ≤ 160)
    (hret : ∀ (h' : Heap) (e D tp' : Addr) (tk1 tk2 tk' : Nat), Fr h₀ L h' m → News h₀ L h' ((e, excIn 63 (some D) (fvs tp')) :: (D, dictOf [⟨PyData.keyHash w.params "text", .str "text" tk1, .str x t0⟩, ⟨PyData.keyHash w.params "code", .str "code" tk2, .int c t1⟩] 2) :: news) → (∀ p ∈ news, p.1 < e) → e < D → Q (.ref e) { s with heap := h', toks := tk' }) :
    wpAny (model PySem.Challenge.rw_pf0120_01.row.prog w) (ktrTop dp un gd cn cs L a ccd cl outer) (call (.ref 63) [.int c t1, .str x t0]) Q E s := by
  refine call_fault F X N (by show 2 ≤ sizeLine; rw [sizeLine_eq]; omega) fun h1 e tp F1 N1 l1 => ?_
  refine' io_init B F1 X N1 T hk (fun p hp => Nat.ne_of_lt (l1 p hp)) ?hd ?hu ?hr
  case hr =>
    intro h2 D tp2 tk1 tk2 tk3 F2 N2 l2 l3
    exact ⟨rfl, hret _ _ _ _ _ _ _ F2 N2 l1 l3⟩
  case hd => (show dp + 1 + 12 < recursionLimit; omega)
  case hu =>
    have z : (Code.builtin "type.__call__" ⟨[Value.ref 63, Value.int c t1, Value.str x t0], []⟩).cUnits ≤ 20 := Nat.le_of_ble_eq_true rfl
    show un + _ ≤ 180
    omega
end Mine
end
section
open PySem PySem.W PySem.Calls PyProof.Rows
set_option maxRecDepth 100000
namespace Mine
section
variable {prog : Program} {w : World} {A₀ : Around} {E : Value → Shared → Prop} {s' : Shared} {base g h₀ G : Heap} {outer : List Env} {L a e D C : Addr} {m : Str → Option Value} {name : Str} {scope : Scope} {cd : Value}
  {n : Str} {b₀ : Stmt} {suite : List Stmt} {pos np : Pos} {rest : List ExceptHandler} {Q : Flow → Shared → Prop} {news : List (Addr × Obj)} {KF : Frag}
  {p : Program} {loose : List Str} {mean : ExcName → Option Value} {mg mb : Str → Option Value} {x : Str}
theorem stays_turn {fs : List Addr} {g' : Heap} (st : h₀.StaysIn g) (out : ∀ b ∈ fs, h₀.get? b = none) (T : KtsTurn fs g g') : h₀.StaysIn g' := fun b o q => T.other b o (st b o q) fun hm => by
  rw [out b hm] at q
  cases q

theorem caughtD (R : RaisedD base g (envOf name scope L a cd :: outer) e (.ref C) D news s'.heap) (F : Fr g L G m) (U : G.UpToSlots s'.heap) (K : Below A₀ base outer g)
    (st : h₀.StaysIn g) (out : ∀ b ∈ outer.filterMap (·.frame), h₀.get? b = none) (X₀ : KF.In h₀) (T₀ : Top p loose mean mg mb h₀)
    (ex : nsIn KF mainGlobals x = some (some (.ref C))) (q : ktsIn KF C "BaseException" = true)
    (k : ∀ h' g' tk oe vs, oe.cls = .ref C → oe.dict = some D → oe.data = .fields vs → KtsTurn (outer.filterMap (·.frame)) g g' → Fr g' L h' (fun y => if y = n then some (.ref e) else m y) → News g' L h' ((e, oe) :: news) → Below A₀ base outer g' → h₀.StaysIn g' → KF.In g' → Top p loose mean mg mb g' →
      wpAny (model prog w) ((A₀.deeper (envOf name scope L a cd)).mark (some (.ref e))) (execs (b₀ :: suite) (envOf name scope L a cd))
        (fun f s₄ => wpAny (model prog w) (A₀.deeper (envOf name scope L a cd)) (do bindName (envOf name scope L a cd) n .none; unbindBehindTheSuite (envOf name scope L a cd) n pos) (fun _ s₅ => Q f s₅) E s₄)
        (AsSuiteRaised (model prog w) ((A₀.deeper (envOf name scope L a cd)).mark (some (.ref e))) (envOf name scope L a cd) n pos (notedBy (model prog w) ((A₀.deeper (envOf name scope L a cd)).mark (some (.ref e))) (envOf name scope L a cd) (cameBackBy (model prog w) (A₀.deeper (envOf name scope L a cd)) (envOf name scope L a cd) E)))
        { s' with heap := h', toks := tk })
    (hk : scope.kind = .function := by rfl) (hlo : (envOf name scope L a cd).kindOf n = some .local := by rfl) (hx : (envOf name scope L a cd).kindOf x = some .globalImplicit := by rfl) (hd : (x == ("__debug__" : Str)) = false := by decide) :
    wpAny (model prog w) (A₀.deeper (envOf name scope L a cd)) (noteFrame (.ref e) (envOf name scope L a cd))
      (fun _ s₂ => wpAny (model prog w) (A₀.deeper (envOf name scope L a cd)) (setFlight (.ref e) none) (fun _ s₃ =>
        wpAny (model prog w) (A₀.deeper (envOf name scope L a cd)) (handleBy (.ref e) (envOf name scope L a cd) (.ExceptHandler (some (.Name x np)) (some n) (b₀ :: suite) pos :: rest)) Q E s₃) E s₂) E s' := by
  obtain ⟨B, hB, hBG, hl, hfl⟩ := R
  have hL : B.get? L = none := by
    obtain ⟨_, ⟨L', _, hf, hn', _⟩, _⟩ := hfl.2.2.1
    obtain rfl : L = L' := Option.some.inj hf
    exact hn'
  have hBo : ∀ b o, g.get? b = some o → b ∉ outer.filterMap (·.frame) → B.get? b = some o := fun b o e' nm => hBG b o e' fun hm => by
    rcases memX (cl := []) hm with z | z
    · rw [z, kts_self F] at e'
      cases e'
    · exact nm z
  refine noteD_next (Around.frames_deeper K.stack) rfl hfl fun h₄ a₄ u₄ => ?_
  refine flightD a₄ fun h₅ a₅ u₅ => ?_
  obtain ⟨g₅, T₅, F₅, K₅⟩ := groundD K F hBo a₅.1 (U.trans (u₄.trans u₅))
  have st₅ := stays_turn st out T₅
  have X₅ : KF.In g₅ := X₀.keeps st₅
  have P₅ : TopRead p loose mg mb g₅ := topRead_of (T₀.keeps st₅)
  obtain ⟨ob, hob, hobc⟩ : ∃ ob, h₅.get? e = some ob ∧ ob.cls = .ref C := by
    obtain ⟨_, _, _, oe, _, _, _, _, he, hc, _⟩ := a₅
    exact ⟨oe, he, hc⟩
  obtain ⟨nm, q', N, bs, bm, hdct, sn, sub, ab, col, dd, k0, k1, k2, k3, k5, newId, hC, hbase, hbT⟩ := kts_cls X₅ q
  have hC₅ := F₅.keep _ _ hC
  refine wpAny_handleBy_cons (codeAny_handlers_test (name_K F₅ X₅ P₅ ex ?_ hk hx hd)) (by intro q; cases q)
  refine wpAny_excMatches_sub_self hC₅ hob hobc hbase (codeAny_handlers_suite_as ?_)
  refine flightD a₅ fun h₆ a₆ u₆ => ?_
  obtain ⟨g₆, T₆, F₆, K₆⟩ := groundD K F hBo a₆.1 ((U.trans (u₄.trans u₅)).trans u₆)
  have st₆ := stays_turn st out T₆
  obtain ⟨b1, b2, b3, oe, vs, _, _, _, he, hc, hdd, hd', _⟩ := a₆
  have ne₆ : g₆.get? e = none := T₆.none_ _ (by
    cases z : g.get? e with
    | none => rfl
    | some o =>
      by_cases hm : e ∈ outer.filterMap (·.frame)
      · obtain ⟨_, o', ho', hn⟩ := b3.mem (List.mem_filterMap.mpr (by
          obtain ⟨env, h1, h2⟩ := List.mem_filterMap.mp hm
          exact ⟨env, .tail _ h1, h2⟩) : e ∈ (envOf name scope L a cd :: outer).filterMap (·.frame))
        rw [he] at ho'
        cases ho'
        exact (hn _ hd').elim
      · have := hBo e o z hm
        rw [b2] at this
        cases this)
  have N₆ : News g₆ L h₆ ((e, oe) :: news) := fun y hy => by
    rcases List.mem_cons.mp hy with rfl | hy
    · refine ⟨he, fun z => ?_, ne₆⟩
      obtain ⟨_, o', ho', hn⟩ := b3.mem (List.mem_filterMap.mpr ⟨_, .head _, rfl⟩ : L ∈ (envOf name scope L a cd :: outer).filterMap (·.frame))
      rw [← z, he] at ho'
      cases ho'
      exact (hn _ hd').elim
    · exact ⟨b1 _ _ (hl y hy).1, (fun z => by have := (hl y hy).1; rw [z, hL] at this; cases this), T₆.none_ _ (hl y hy).2.1⟩
  refine stN F₆ N₆ (fun h₇ F₇ N₇ => ?_) hk hlo
  exact k h₇ g₆ _ oe vs hc hdd hd' T₆ F₇ N₇ K₆ st₆ (X₀.keeps st₆) (T₀.keeps st₆)
end
end Mine
end
section
namespace Mine

def solidT (z : Bool) (out : Str) (c : Int) : Str :=
  if ((⟨#[c.toNat]⟩ : Str) != Str.ofString " ") = true then out ++ ⟨#[c.toNat]⟩
  else if z = true ∧ (out != Str.ofString "") = true ∧ (Txt.item out (-1) != Str.ofString "E") = true ∧ (Txt.item out (-1) != Str.ofString "D") = true then out ++ Str.ofString "0" else out
def solidS (z : Bool) (l : List Int) : Str := l.foldl (solidT z) (Str.ofString "")
theorem solidS_snoc (z : Bool) (l : List Int) (c : Int) : solidS z (l ++ [c]) = solidT z (solidS z l) c := by unfold solidS; rw [List.foldl_append]; rfl
theorem solid_start (z : Bool) : Str.ofString "" = solidS z [] ∧ (Str.ofString "").length ≤ ([] : List Int).length := ⟨rfl, by decide⟩
theorem len_snoc (l : List Int) (c : Int) : (l ++ [c]).length = l.length + 1 := by simp
set_option maxRecDepth 100000 in
set_option maxHeartbeats 8000000 in
theorem solid_ct {w : World} {p : Program} {loose : List Str} {mean : ExcName → Option Value} {mg mb : Str → Option Value}
    {dp un : Nat} {gd : Option (List Code)} {cn : Str} {cs : Scope} {a : Addr} {ccd : Value} {cl : List (Str × Addr)} {outer : List Env} {A₀ : Around} {base h₀ : Heap} {L : Addr} {m : Str → Option Value} {s : Shared} {Q E : Value → Shared → Prop}
    {x : Str} {z : Bool} {t0 : Tok} {news : List (Addr × Obj)}
    (B : Below A₀ base outer h₀) (F : Fr h₀ L s.heap m) (X : (Mine.hd.heap_1 w.params).In h₀) (N : News h₀ L s.heap news) (T : Top p loose mean mg mb h₀) (hk : cs.kind = .function)
    (hx : x.length ≤ 100) (hdp : dp + 1 < recursionLimit) (hun : un + 8 < cLine)
    (hret : ∀ (t : Tok) (h' : Heap) (tk' : Nat), (solidS z (KStt.codes x)).length ≤ x.length → Fr h₀ L h' m → News h₀ L h' news → Q (.str (solidS z (KStt.codes x)) t) { s with heap := h', toks := tk' }) :
    wpAny (model PySem.Challenge.rw_pf0120_01.row.prog w) (ktrTop dp un gd cn cs L a ccd cl outer) (call (.ref 109) [.str x t0, .bool z]) Q E s := by
  revert X; k_fill; intro X
  k_with "pyIter str" => k_state (fun pre out => out = solidS z pre ∧ out.length ≤ pre.length) "out"
  k_with "state" => (first | exact solid_start _ | (refine ⟨?_, ?_⟩ <;> first | (rw [solidS_snoc]; unfold solidT; simp only [Int.toNat_natCast]; simp_all; done) | (rw [len_snoc]; first | (simp only [PySem.Str.length_append] at *; (have e1 : ∀ n, (⟨#[n]⟩ : Str).length = 1 := fun _ => rfl); (have e2 : (Str.ofString "0").length = 1 := by decide); simp only [e1, e2] at *; omega) | omega)))
  refine wpAny_call ?_
  k_dflt cell_enter
  k_steps
  · rename_i e1 e2 _ _ _ _
    subst e1
    exact hret _ _ _ e2 (by assumption) (by assumption)
end Mine
end
section
namespace Mine

def FIGS : Str := Str.ofString "0123456789"
def wholeT (acc : Option Int) (c : Int) : Option Int :=
  acc.bind fun n => if Txt.find FIGS ⟨#[c.toNat]⟩ < 0 then none else some (n * 10 + Txt.find FIGS ⟨#[c.toNat]⟩)
def wholeF (l : List Int) : Option Int := l.foldl wholeT (some 0)
def wholeS (x : Str) : Int := if (x == Str.ofString "") = true then -1 else (wholeF (KStt.codes x)).getD (-1)
theorem whole_start : wholeF [] = some 0 ∧ (0 : Int) ≤ 0 := ⟨rfl, by decide⟩
theorem whole_snoc {l : List Int} {n : Int} {c : Nat} (h : wholeF l = some n) (h0 : 0 ≤ n) (hf : ¬ Txt.find (Str.ofString "0123456789") ⟨#[c]⟩ < 0) :
    wholeF (l ++ [(c : Int)]) = some (n * 10 + Txt.find (Str.ofString "0123456789") ⟨#[c]⟩) ∧ 0 ≤ n * 10 + Txt.find (Str.ofString "0123456789") ⟨#[c]⟩ := by
  refine ⟨?_, by omega⟩
  unfold wholeF at h ⊢
  rw [List.foldl_append, h]
  show wholeT (some n) (c : Int) = _
  unfold wholeT FIGS
  rw [Option.bind_some, Int.toNat_natCast, if_neg hf]
theorem wholeT_none (l : List Int) : l.foldl wholeT none = none := by
  induction l with
  | nil => rfl
  | cons c r ih => exact ih
theorem whole_out {x : Str} {pre post : List Int} {n : Int} {c : Nat} (e : KStt.codes x = pre ++ (c : Int) :: post) (h : wholeF pre = some n) (hf : Txt.find (Str.ofString "0123456789") ⟨#[c]⟩ < 0) : wholeS x = -1 := by
  unfold wholeS
  split
  · rfl
  · rw [e]
    unfold wholeF at h ⊢
    rw [List.foldl_append, h, List.foldl_cons]
    have : wholeT (some n) (c : Int) = none := by
      unfold wholeT FIGS
      rw [Option.bind_some, Int.toNat_natCast, if_pos hf]
    rw [this, wholeT_none]; rfl
theorem whole_nil {x : Str} (h : (x == Str.ofString "") = true) : wholeS x = -1 := by unfold wholeS; rw [if_pos h]
theorem whole_some {x : Str} {n : Int} (h : (x == Str.ofString "") = false) (e : wholeF (KStt.codes x) = some n) : wholeS x = n := by
  unfold wholeS; rw [if_neg (by rw [h]; decide), e]; rfl
set_option maxRecDepth 100000 in
set_option maxHeartbeats 8000000 in
theorem whole_ct {w : World} {p : Program} {loose : List Str} {mean : ExcName → Option Value} {mg mb : Str → Option Value}
    {dp un : Nat} {gd : Option (List Code)} {cn : Str} {cs : Scope} {a : Addr} {ccd : Value} {cl : List (Str × Addr)} {outer : List Env} {A₀ : Around} {base h₀ : Heap} {L : Addr} {m : Str → Option Value} {s : Shared} {Q E : Value → Shared → Prop}
    {x : Str} {t0 : Tok} {news : List (Addr × Obj)}
    (B : Below A₀ base outer h₀) (F : Fr h₀ L s.heap m) (X : (Mine.hd.heap_1 w.params).In h₀) (N : News h₀ L s.heap news) (T : Top p loose mean mg mb h₀) (hk : cs.kind = .function)
    (hx : x.length ≤ 100) (hdp : dp + 1 < recursionLimit) (hun : un + 8 < cLine)
    (hret : ∀ (t : Tok) (h' : Heap) (tk' : Nat), Fr h₀ L h' m → News h₀ L h' news → Q (.int (wholeS x) t) { s with heap := h', toks := tk' }) :
    wpAny (model PySem.Challenge.rw_pf0120_01.row.prog w) (ktrTop dp un gd cn cs L a ccd cl outer) (call (.ref 116) [.str x t0]) Q E s := by
  revert X; k_fill; intro X
  k_with "pyIter str" => k_state (fun pre n => wholeF pre = some n ∧ 0 ≤ n) "number"
  k_with "state" => (first | exact whole_start | exact whole_snoc (by assumption) (by assumption) (by assumption))
  refine wpAny_call ?_
  k_dflt cell_enter
  k_steps
  · have e := whole_out (by assumption) (by assumption) (by assumption)
    rw [← e]
    exact hret _ _ _ (by assumption) (cb_drop (by assumption) fun q hq => List.mem_append_left _ hq)
  · have e := whole_nil (by assumption)
    rw [← e]
    exact hret _ _ _ (by assumption) (by assumption)
  · have e := whole_some (by assumption) (by assumption)
    rw [← e]
    exact hret _ _ _ (by assumption) (by assumption)
end Mine
end
section
namespace Mine

def sgS (x : Str) : Int := if (Txt.slice x none (some 1) == Str.ofString "-") = true then -1 else 1
def restS (x : Str) : Str := if (Txt.slice x none (some 1) == Str.ofString "-") = true then Txt.slice x (some 1) none else if (Txt.slice x none (some 1) == Str.ofString "+") = true then Txt.slice x (some 1) none else x
def inWS (n width : Int) : Bool := decide (-(1 * 2 ^ (width - 1).toNat) ≤ n) && decide (n < 1 * 2 ^ (width - 1).toNat)
theorem news_is {h₀ h : Heap} {L r : Addr} {u u' : Int} {v v' : Str} {t t' : Tok} {news : List (Addr × Obj)} (e1 : u = u') (e2 : v = v') (N : News h₀ L h ((r, tup2 (.int u t) (.str v t')) :: news)) : News h₀ L h ((r, tup2 (.int u' t) (.str v' t')) :: news) := by
  subst e1 e2; exact N
set_option maxRecDepth 100000 in
set_option maxHeartbeats 8000000 in
theorem cut_ct {w : World} {p : Program} {loose : List Str} {mean : ExcName → Option Value} {mg mb : Str → Option Value}
    {dp un : Nat} {gd : Option (List Code)} {cn : Str} {cs : Scope} {a : Addr} {ccd : Value} {cl : List (Str × Addr)} {outer : List Env} {A₀ : Around} {base h₀ : Heap} {L : Addr} {m : Str → Option Value} {s : Shared} {Q E : Value → Shared → Prop}
    {x : Str} {t0 : Tok} {news : List (Addr × Obj)}
    (B : Below A₀ base outer h₀) (F : Fr h₀ L s.heap m) (X : (Mine.hd.heap_1 w.params).In h₀) (N : News h₀ L s.heap news) (T : Top p loose mean mg mb h₀) (hk : cs.kind = .function)
    (hx : x.length ≤ 100) (hdp : dp + 1 < recursionLimit) (hun : un + 8 < cLine)
    (hret : ∀ (r : Addr) (t t' : Tok) (h' : Heap) (tk' : Nat), (restS x).length ≤ x.length → Fr h₀ L h' m → News h₀ L h' ((r, tup2 (.int (sgS x) t) (.str (restS x) t')) :: news) → (∀ q ∈ news, q.1 < r) → Q (.ref r) { s with heap := h', toks := tk' }) :
    wpAny (model PySem.Challenge.rw_pf0120_01.row.prog w) (ktrTop dp un gd cn cs L a ccd cl outer) (call (.ref 123) [.str x t0]) Q E s := by
  revert X; k_fill; intro X
  refine wpAny_call ?_
  k_dflt cell_enter
  k_steps
  · refine hret _ _ _ _ _ ?_ (by assumption) (news_is ?_ ?_ (by assumption)) (by assumption)
    · unfold restS; clear hret; simp_all
    · unfold sgS; clear hret; simp_all
    · unfold restS; clear hret; simp_all
  · refine hret _ _ _ _ _ ?_ (by assumption) (news_is ?_ ?_ (by assumption)) (by assumption)
    · unfold restS; clear hret; simp_all
    · unfold sgS; clear hret; simp_all
    · unfold restS; clear hret; simp_all
  · refine hret _ _ _ _ _ ?_ (by assumption) (news_is ?_ ?_ (by assumption)) (by assumption)
    · unfold restS; clear hret; simp_all
    · unfold sgS; clear hret; simp_all
    · unfold restS; clear hret; simp_all
set_option maxRecDepth 100000 in
set_option maxHeartbeats 8000000 in
theorem inw_ct {w : World} {p : Program} {loose : List Str} {mean : ExcName → Option Value} {mg mb : Str → Option Value}
    {dp un : Nat} {gd : Option (List Code)} {cn : Str} {cs : Scope} {a : Addr} {ccd : Value} {cl : List (Str × Addr)} {outer : List Env} {A₀ : Around} {base h₀ : Heap} {L : Addr} {m : Str → Option Value} {s : Shared} {Q E : Value → Shared → Prop}
    {n width : Int} {t0 t1 : Tok} {news : List (Addr × Obj)}
    (B : Below A₀ base outer h₀) (F : Fr h₀ L s.heap m) (X : (Mine.hd.heap_1 w.params).In h₀) (N : News h₀ L s.heap news) (T : Top p loose mean mg mb h₀) (hk : cs.kind = .function)
    (hw : 4 ≤ width) (hw1 : width ≤ 12) (hdp : dp + 1 < recursionLimit) (hun : un + 8 < cLine)
    (hret : ∀ (h' : Heap) (tk' : Nat), Fr h₀ L h' m → News h₀ L h' news → Q (.bool (inWS n width)) { s with heap := h', toks := tk' }) :
    wpAny (model PySem.Challenge.rw_pf0120_01.row.prog w) (ktrTop dp un gd cn cs L a ccd cl outer) (call (.ref 130) [.int n t0, .int width t1]) Q E s := by
  revert X; k_fill; intro X
  refine wpAny_call ?_
  k_dflt cell_enter
  k_steps
  · rename_i ha _ _ _ _
    have e : decide (n < 1 * 2 ^ (width - 1).toNat) = inWS n width := by unfold inWS; rw [decide_eq_true ha, Bool.true_and]
    rw [e]
    exact hret _ _ (by assumption) (by assumption)
  · rename_i ha _ _ _ _
    have e : decide (-(1 * 2 ^ (width - 1).toNat) ≤ n) = inWS n width := by unfold inWS; rw [decide_eq_false ha, Bool.false_and]
    rw [e]
    exact hret _ _ (by assumption) (by assumption)
end Mine
end
section
namespace Mine

inductive Out where
  | ok (v : RV)
  | bad (c : Int)
def readIntS (x : Str) (z : Bool) (width : Int) : Out :=
  if (solidS z (KStt.codes x) == Str.ofString "") = true then .ok (.i 0)
  else if wholeS (restS (solidS z (KStt.codes x))) < 0 then .bad 1
  else if inWS (sgS (solidS z (KStt.codes x)) * wholeS (restS (solidS z (KStt.codes x)))) width = true then .ok (.i (sgS (solidS z (KStt.codes x)) * wholeS (restS (solidS z (KStt.codes x)))))
  else .bad 2
abbrev faultD (P : Params) (c : Int) (x : Str) (t0 t1 tk1 tk2 : Tok) : Obj := dictOf [⟨PyData.keyHash P "text", .str "text" tk1, .str x t0⟩, ⟨PyData.keyHash P "code", .str "code" tk2, .int c t1⟩] 2
theorem news_drop {h₀ h : Heap} {L : Addr} {a b : Addr × Obj} {news news' : List (Addr × Obj)} (N : News h₀ L h (a :: b :: news')) (hs : ∀ q ∈ news, q ∈ news') : News h₀ L h (b :: news) := fun q hq => by
  rcases List.mem_cons.mp hq with rfl | hq
  · exact N _ (.tail _ (.head _))
  · exact N q (.tail _ (.tail _ (hs q hq)))
theorem news_one {h₀ h : Heap} {L : Addr} {a : Addr × Obj} {news : List (Addr × Obj)} (N : News h₀ L h (a :: news)) : News h₀ L h [a] := fun q hq => by
  obtain rfl := List.mem_singleton.mp hq
  exact N _ (.head _)
theorem ne_all {e D : Addr} {o : Obj} {news news' : List (Addr × Obj)} (l7 : e < D) (l6 : ∀ p ∈ news', p.1 < e) (hs : ∀ q ∈ news, q ∈ news') : ∀ q ∈ (D, o) :: news, q.1 ≠ e := fun q hq => by
  rcases List.mem_cons.mp hq with rfl | hq
  · exact Nat.ne_of_gt l7
  · exact Nat.ne_of_lt (l6 q (hs q hq))
theorem leave_onD1 {M : Model} {A : Around} {E : Value → Shared → Prop} {s' : Shared} {base g g₂ : Heap} {outer : List Env} {L a e D : Addr} {m : Str → Option Value} {name : Str} {scope : Scope} {cd : Value} {cl : List (Str × Addr)}
    {Q : Unit → Shared → Prop} {news : List (Addr × Obj)} {cls : Value} (K : Below A base outer g) (F : Fr g L g₂ m) (R : RaisedD base g (envX name scope L a cd cl :: outer) e cls D news s'.heap)
    (hQ : ∀ h', RaisedD base g outer e cls D news h' → s'.heap.UpToSlots h' → Q () { s' with heap := h' }) :
    wpAny M (A.deeper (envX name scope L a cd cl)) (leaving (envX name scope L a cd cl) (.ref e)) Q E s' := by
  obtain ⟨B, hB, hBG, hl, hfl⟩ := R
  refine leaveD_next (Around.frames_deeper K.stack) rfl hfl fun h' x u => hQ h' ⟨B, hB, fun b o q nm => hBG b o q (fun hm => ?_), hl, x⟩ u
  rcases memX hm with z | z
  · rw [z, PySem.W.kts_self F] at q
    cases q
  · exact nm z
set_option maxRecDepth 100000 in
set_option maxHeartbeats 8000000 in
theorem readint_ct {w : World} {p : Program} {loose : List Str} {mean : ExcName → Option Value} {mg mb : Str → Option Value}
    {dp un : Nat} {gd : Option (List Code)} {cn : Str} {cs : Scope} {a : Addr} {ccd : Value} {cl : List (Str × Addr)} {outer : List Env} {A₀ : Around} {base h₀ : Heap} {L : Addr} {m : Str → Option Value} {s : Shared} {Q E : Value → Shared → Prop}
    {x : Str} {z : Bool} {width : Int} {t0 t1 : Tok} {news : List (Addr × Obj)}
    (B : Below A₀ base outer h₀) (F : Fr h₀ L s.heap m) (X : (Mine.hd.heap_1 w.params).In h₀) (N : News h₀ L s.heap news) (T : Top p loose mean mg mb h₀) (hk : cs.kind = .function)
    (hx : x.length ≤ 60) (hw : 4 ≤ width) (hw1 : width ≤ 12) (hdp : dp + 20 < recursionLimit) (hun : un ≤ 100) (hraise : ∀ (c : Int) (e D : Addr) (x' : Str) (t0 t1 tk1 tk2 : Tok) (G h' : Heap) (tk' : Nat), readIntS x z width = .bad c → RaisedD base h₀ (envX cn cs L a ccd cl :: outer) e (.ref 63) D ((D, faultD w.params c x' t0 t1 tk1 tk2) :: news) h' → Fr h₀ L G m → G.UpToSlots h' → E (.ref e) { s with heap := h', toks := tk' })
    (hret : ∀ (n : Int) (t : Tok) (h' : Heap) (tk' : Nat), readIntS x z width = .ok (.i n) → Fr h₀ L h' m → News h₀ L h' news → Q (.int n t) { s with heap := h', toks := tk' }) :
    wpAny (model PySem.Challenge.rw_pf0120_01.row.prog w) (ktrTop dp un gd cn cs L a ccd cl outer) (call (.ref 137) [.str x t0, .bool z, .int width t1]) Q E s := by
  revert X; k_fill; intro X
  have hs64 : Builtin.Int.intBits (sgS (solidS z (KStt.codes x))) ≤ 64 := by unfold sgS; split <;> decide
  refine wpAny_call ?_
  k_dflt (refine' code_def ?k1 ?k2 ?k3 ?k4 ?k5 ?kA ?kF ?kK ?k6 ?k7 ?k8 ?k9 ?kB ?_ ?c2 ?c3 ?c4 ?c5; (case kA => exact rfl); (case kF => exact rfl); (case kK => assumption); (case k1 => k_asm); (case k2 => k_asm); (case k3 => k_asm); (case k4 => k_asm); (case k5 => k_asm); (case k6 => k_is); (case k7 => k_is); (case k8 => ktr_room); (case k9 => exact BindsTo.of_eq rfl); (case c5 => decide); (case kB => exact locs rfl); (case c2 => exact rfl); (case c3 => exact rfl); (case c4 => exact rfl); k_whole; intro g' L' h' FG' F' N' B' X' T'; (try dsimp only); (try k_lift B'); (try k_fold))
  repeat' ((fail_if_success (with_reducible show Q _ _)); (fail_if_success (with_reducible show wpAny _ _ (call (Value.ref _) _) _ _ _)); (fail_if_success (with_reducible show wpAny _ _ (exec (Stmt.Raise _ _ _) _) _ _ _)); first | (k_unfold; (try dsimp only)) | (with_reducible refine stripQ ?_; k_unfold; (try dsimp only)) | (k_end; wrow_close) | walk1 | (dsimp only; walk1) | (leave1; walk_say "STEP leave1"; try dsimp only))
  k_dflt (refine' solid_ct ?ybx1 ?yfx1 ?yxx1 ?ynx1 ?ytx1 ?ykx1 (by omega) ?ydx1 ?yux1 ?yrx1)
  case ybx1 => k_asm
  case yfx1 => k_asm
  case yxx1 => k_asm
  case ynx1 => k_asm
  case ytx1 => k_asm
  case ykx1 => exact rfl
  case ydx1 => first | ktr_room | omega | (show _ + 1 + _ < _; omega)
  case yux1 => first | ktr_units | omega | (show _ + 3 + _ < cLine; rw [cLine_is]; omega)
  intro t1 h1 tk1 e1 F1 N1
  repeat' ((fail_if_success (with_reducible show Q _ _)); (fail_if_success (with_reducible show wpAny _ _ (call (Value.ref _) _) _ _ _)); (fail_if_success (with_reducible show wpAny _ _ (exec (Stmt.Raise _ _ _) _) _ _ _)); first | (k_unfold; (try dsimp only)) | (with_reducible refine stripQ ?_; k_unfold; (try dsimp only)) | (k_end; wrow_close) | walk1 | (dsimp only; walk1) | (leave1; walk_say "STEP leave1"; try dsimp only))
  · exact hret 0 _ _ _ (by unfold readIntS; rw [if_pos (by assumption)]) (by with_reducible assumption) (by with_reducible assumption)
  k_dflt (refine' cut_ct ?ybx2 ?yfx2 ?yxx2 ?ynx2 ?ytx2 ?ykx2 (by omega) ?ydx2 ?yux2 ?yrx2)
  case ybx2 => k_asm
  case yfx2 => k_asm
  case yxx2 => k_asm
  case ynx2 => k_asm
  case ytx2 => k_asm
  case ykx2 => exact rfl
  case ydx2 => first | ktr_room | omega | (show _ + 1 + _ < _; omega)
  case yux2 => first | ktr_units | omega | (show _ + 3 + _ < cLine; rw [cLine_is]; omega)
  intro r2 t2 t2' h2 tk2 e2 F2 N2 l2
  repeat' ((fail_if_success (with_reducible show Q _ _)); (fail_if_success (with_reducible show wpAny _ _ (call (Value.ref _) _) _ _ _)); (fail_if_success (with_reducible show wpAny _ _ (exec (Stmt.Raise _ _ _) _) _ _ _)); first | (k_unfold; (try dsimp only)) | (with_reducible refine stripQ ?_; k_unfold; (try dsimp only)) | (k_end; wrow_close) | walk1 | (dsimp only; walk1) | (leave1; walk_say "STEP leave1"; try dsimp only))
  k_dflt (refine' whole_ct ?ybx3 ?yfx3 ?yxx3 ?ynx3 ?ytx3 ?ykx3 (by omega) ?ydx3 ?yux3 ?yrx3)
  case ybx3 => k_asm
  case yfx3 => k_asm
  case yxx3 => k_asm
  case ynx3 => k_asm
  case ytx3 => k_asm
  case ykx3 => exact rfl
  case ydx3 => first | ktr_room | omega | (show _ + 1 + _ < _; omega)
  case yux3 => first | ktr_units | omega | (show _ + 3 + _ < cLine; rw [cLine_is]; omega)
  intro t3 h3 tk3 F3 N3
  repeat' ((fail_if_success (with_reducible show Q _ _)); (fail_if_success (with_reducible show wpAny _ _ (call (Value.ref _) _) _ _ _)); (fail_if_success (with_reducible show wpAny _ _ (exec (Stmt.Raise _ _ _) _) _ _ _)); first | (k_unfold; (try dsimp only)) | (with_reducible refine stripQ ?_; k_unfold; (try dsimp only)) | (k_end; wrow_close) | walk1 | (dsimp only; walk1) | (leave1; walk_say "STEP leave1"; try dsimp only))
  · k_dflt (refine' raise_walk rfl ?_)
    repeat' ((fail_if_success (with_reducible show Q _ _)); (fail_if_success (with_reducible show wpAny _ _ (call (Value.ref _) _) _ _ _)); (fail_if_success (with_reducible show wpAny _ _ (exec (Stmt.Raise _ _ _) _) _ _ _)); (fail_if_success (with_reducible show RaiseEnd _ _ _)); first | (k_unfold; (try dsimp only)) | (with_reducible refine stripQ ?_; k_unfold; (try dsimp only)) | (k_end; wrow_close) | walk1 | (dsimp only; walk1) | (leave1; walk_say "STEP leave1"; try dsimp only))
    k_dflt (refine' fault_ct ?ybx5 ?yfx5 ?yxx5 ?ynx5 ?ytx5 ?ykx5  ?ydx5 ?yux5 ?yrx5)
    case ybx5 => k_asm
    case yfx5 => k_asm
    case yxx5 => k_asm
    case ynx5 => k_asm
    case ytx5 => k_asm
    case ykx5 => exact rfl
    case ydx5 => first | ktr_room | omega | (show _ + 1 + _ < _; omega)
    case yux5 => first | ktr_units | omega | (show _ + 3 + _ < cLine; rw [cLine_is]; omega)
    intro h6 e6 D6 tp6 tka tkb tkc F6 N6 l6 l7
    repeat' ((fail_if_success (with_reducible show Q _ _)); (fail_if_success (with_reducible show wpAny _ _ (call (Value.ref _) _) _ _ _)); (fail_if_success (with_reducible show wpAny _ _ (exec (Stmt.Raise _ _ _) _) _ _ _)); (fail_if_success (with_reducible show RaiseEnd _ _ _)); first | (k_unfold; (try dsimp only)) | (with_reducible refine stripQ ?_; k_unfold; (try dsimp only)) | (k_end; wrow_close) | walk1 | (dsimp only; walk1) | (leave1; walk_say "STEP leave1"; try dsimp only))
    refine ⟨_, _, _, rfl, cls63 (X'.keeps F6.keep), (N6 _ (.head _)).1, ?_⟩
    k_dflt (refine' leave_raiseD (oe := excIn 63 (some D6) (fvs tp6)) B' F6 (news_drop (news := news) N6 (by intro q hq; first | exact hq | simp [hq])) (news_one N6) (ne_all l7 l6 (by intro q hq; first | exact hq | simp [hq])) rfl rfl rfl rfl rfl ?lqx4)
    case lqx4 =>
      intro h9 R9 U9
      exact hraise _ _ _ _ _ _ _ _ _ _ _ (by unfold readIntS; rw [if_neg (by simp_all), if_pos (by assumption)]) (R9.down FG'.keep) FG' ((Heap.UpToSlots.of_keeps F6.keep).trans U9)
  k_dflt (refine' inw_ct ?ybx6 ?yfx6 ?yxx6 ?ynx6 ?ytx6 ?ykx6 hw hw1 ?ydx6 ?yux6 ?yrx6)
  case ybx6 => k_asm
  case yfx6 => k_asm
  case yxx6 => k_asm
  case ynx6 => k_asm
  case ytx6 => k_asm
  case ykx6 => exact rfl
  case ydx6 => first | ktr_room | omega | (show _ + 1 + _ < _; omega)
  case yux6 => first | ktr_units | omega | (show _ + 3 + _ < cLine; rw [cLine_is]; omega)
  intro h4 tk4 F4 N4
  repeat' ((fail_if_success (with_reducible show Q _ _)); (fail_if_success (with_reducible show wpAny _ _ (call (Value.ref _) _) _ _ _)); (fail_if_success (with_reducible show wpAny _ _ (exec (Stmt.Raise _ _ _) _) _ _ _)); first | (k_unfold; (try dsimp only)) | (with_reducible refine stripQ ?_; k_unfold; (try dsimp only)) | (k_end; wrow_close) | walk1 | (dsimp only; walk1) | (leave1; walk_say "STEP leave1"; try dsimp only))
  · exact hret _ _ _ _ (by unfold readIntS; rw [if_neg (by simp_all), if_neg (by assumption), if_pos (by simp_all)]) (by with_reducible assumption) (by first | with_reducible assumption | exact fun q hq => (by assumption : News h₀ L h4 _) q (.tail _ hq))
  · k_dflt (refine' raise_walk rfl ?_)
    repeat' ((fail_if_success (with_reducible show Q _ _)); (fail_if_success (with_reducible show wpAny _ _ (call (Value.ref _) _) _ _ _)); (fail_if_success (with_reducible show wpAny _ _ (exec (Stmt.Raise _ _ _) _) _ _ _)); (fail_if_success (with_reducible show RaiseEnd _ _ _)); first | (k_unfold; (try dsimp only)) | (with_reducible refine stripQ ?_; k_unfold; (try dsimp only)) | (k_end; wrow_close) | walk1 | (dsimp only; walk1) | (leave1; walk_say "STEP leave1"; try dsimp only))
    k_dflt (refine' fault_ct ?ybx8 ?yfx8 ?yxx8 ?ynx8 ?ytx8 ?ykx8  ?ydx8 ?yux8 ?yrx8)
    case ybx8 => k_asm
    case yfx8 => k_asm
    case yxx8 => k_asm
    case ynx8 => k_asm
    case ytx8 => k_asm
    case ykx8 => exact rfl
    case ydx8 => first | ktr_room | omega | (show _ + 1 + _ < _; omega)
    case yux8 => first | ktr_units | omega | (show _ + 3 + _ < cLine; rw [cLine_is]; omega)
    intro h6 e6 D6 tp6 tka tkb tkc F6 N6 l6 l7
    repeat' ((fail_if_success (with_reducible show Q _ _)); (fail_if_success (with_reducible show wpAny _ _ (call (Value.ref _) _) _ _ _)); (fail_if_success (with_reducible show wpAny _ _ (exec (Stmt.Raise _ _ _) _) _ _ _)); (fail_if_success (with_reducible show RaiseEnd _ _ _)); first | (k_unfold; (try dsimp only)) | (with_reducible refine stripQ ?_; k_unfold; (try dsimp only)) | (k_end; wrow_close) | walk1 | (dsimp only; walk1) | (leave1; walk_say "STEP leave1"; try dsimp only))
    refine ⟨_, _, _, rfl, cls63 (X'.keeps F6.keep), (N6 _ (.head _)).1, ?_⟩
    k_dflt (refine' leave_raiseD (oe := excIn 63 (some D6) (fvs tp6)) B' F6 (news_drop (news := news) N6 (by intro q hq; first | exact hq | simp [hq])) (news_one N6) (ne_all l7 l6 (by intro q hq; first | exact hq | simp [hq])) rfl rfl rfl rfl rfl ?lqx7)
    case lqx7 =>
      intro h9 R9 U9
      exact hraise _ _ _ _ _ _ _ _ _ _ _ (by unfold readIntS; rw [if_neg (by simp_all), if_neg (by assumption), if_neg (by simp_all)]) (R9.down FG'.keep) FG' ((Heap.UpToSlots.of_keeps F6.keep).trans U9)
end Mine
end
section
namespace Mine

def LeadP (x : Str) (i : Int) : Prop := ∀ j : Int, 0 ≤ j → j < i → (Txt.item x j == Str.ofString " ") = true
theorem LeadP.zero (x : Str) : LeadP x 0 := fun j h0 h1 => absurd h1 (by omega)
theorem LeadP.next {x : Str} {i : Int} (h : LeadP x i) (e : (Txt.item x i == Str.ofString " ") = true) : LeadP x (i + 1) := fun j h0 h1 => by
  by_cases q : j = i
  · rw [q]; exact e
  · exact h j h0 (by omega)
def LeadAt (x : Str) (i : Int) : Prop := 0 ≤ i ∧ i ≤ (x.length : Int) ∧ LeadP x i ∧ (i < (x.length : Int) → (Txt.item x i == Str.ofString " ") = false)
def logAt (x : Str) (i : Int) : Int := if (Txt.slice x (some i) (some (i + 1)) == Str.ofString ".") = true then i + 1 else i
def readLogS (x : Str) (i : Int) : Out :=
  if (Txt.slice x (some (logAt x i)) (some (logAt x i + 1)) == Str.ofString "T") = true then .ok (.b true)
  else if (Txt.slice x (some (logAt x i)) (some (logAt x i + 1)) == Str.ofString "F") = true then .ok (.b false)
  else .bad 1
theorem lead_at1 {x : Str} {i : Int} (h : LeadP x i) (h0 : 0 ≤ i) (h1 : i ≤ (x.length : Int)) (e : (Txt.item x i == Str.ofString " ") = false) : LeadAt x i := ⟨h0, h1, h, fun _ => e⟩
theorem lead_at2 {x : Str} {i : Int} (h : LeadP x i) (h0 : 0 ≤ i) (h1 : i ≤ (x.length : Int)) (e : ¬ i < (x.length : Int)) : LeadAt x i := ⟨h0, h1, h, fun z => absurd z e⟩
section
variable {x : Str} {i : Int}
theorem rl_dT (d : (Txt.slice x (some i) (some (i + 1)) == Str.ofString ".") = true) (t : (Txt.slice x (some (i + 1)) (some (i + 1 + 1)) == Str.ofString "T") = true) : readLogS x i = .ok (.b true) := by
  unfold readLogS logAt; rw [if_pos d, if_pos t]
theorem rl_dF (d : (Txt.slice x (some i) (some (i + 1)) == Str.ofString ".") = true) (t : (Txt.slice x (some (i + 1)) (some (i + 1 + 1)) == Str.ofString "T") = false) (f : (Txt.slice x (some (i + 1)) (some (i + 1 + 1)) == Str.ofString "F") = true) : readLogS x i = .ok (.b false) := by
  unfold readLogS logAt; rw [if_pos d, t, f]; rfl
theorem rl_dN (d : (Txt.slice x (some i) (some (i + 1)) == Str.ofString ".") = true) (t : (Txt.slice x (some (i + 1)) (some (i + 1 + 1)) == Str.ofString "T") = false) (f : (Txt.slice x (some (i + 1)) (some (i + 1 + 1)) == Str.ofString "F") = false) : readLogS x i = .bad 1 := by
  unfold readLogS logAt; rw [if_pos d, t, f]; rfl
theorem rl_T (d : (Txt.slice x (some i) (some (i + 1)) == Str.ofString ".") = false) (t : (Txt.slice x (some i) (some (i + 1)) == Str.ofString "T") = true) : readLogS x i = .ok (.b true) := by
  have e : logAt x i = i := by unfold logAt; rw [d]; rfl
  unfold readLogS; rw [e, if_pos t]
theorem rl_F (d : (Txt.slice x (some i) (some (i + 1)) == Str.ofString ".") = false) (t : (Txt.slice x (some i) (some (i + 1)) == Str.ofString "T") = false) (f : (Txt.slice x (some i) (some (i + 1)) == Str.ofString "F") = true) : readLogS x i = .ok (.b false) := by
  have e : logAt x i = i := by unfold logAt; rw [d]; rfl
  unfold readLogS; rw [e, t, f]; rfl
theorem rl_N (d : (Txt.slice x (some i) (some (i + 1)) == Str.ofString ".") = false) (t : (Txt.slice x (some i) (some (i + 1)) == Str.ofString "T") = false) (f : (Txt.slice x (some i) (some (i + 1)) == Str.ofString "F") = false) : readLogS x i = .bad 1 := by
  have e : logAt x i = i := by unfold logAt; rw [d]; rfl
  unfold readLogS; rw [e, t, f]; rfl
end
set_option maxRecDepth 100000 in
set_option maxHeartbeats 8000000 in
theorem readlog_ct {w : World} {p : Program} {loose : List Str} {mean : ExcName → Option Value} {mg mb : Str → Option Value}
    {dp un : Nat} {gd : Option (List Code)} {cn : Str} {cs : Scope} {a : Addr} {ccd : Value} {cl : List (Str × Addr)} {outer : List Env} {A₀ : Around} {base h₀ : Heap} {L : Addr} {m : Str → Option Value} {s : Shared} {Q E : Value → Shared → Prop}
    {x : Str} {t0 : Tok} {news : List (Addr × Obj)}
    (B : Below A₀ base outer h₀) (F : Fr h₀ L s.heap m) (X : (Mine.hd.heap_1 w.params).In h₀) (N : News h₀ L s.heap news) (T : Top p loose mean mg mb h₀) (hk : cs.kind = .function)
    (hx : x.length ≤ 60) (hdp : dp + 20 < recursionLimit) (hun : un ≤ 100) (hraise : ∀ (i c : Int) (e D : Addr) (x' : Str) (t0 t1 tk1 tk2 : Tok) (G h' : Heap) (tk' : Nat), LeadAt x i → readLogS x i = .bad c → RaisedD base h₀ (envX cn cs L a ccd cl :: outer) e (.ref 63) D ((D, faultD w.params c x' t0 t1 tk1 tk2) :: news) h' → Fr h₀ L G m → G.UpToSlots h' → E (.ref e) { s with heap := h', toks := tk' })
    (hret : ∀ (i : Int) (b : Bool) (h' : Heap) (tk' : Nat), LeadAt x i → readLogS x i = .ok (.b b) → Fr h₀ L h' m → News h₀ L h' news → Q (.bool b) { s with heap := h', toks := tk' }) :
    wpAny (model PySem.Challenge.rw_pf0120_01.row.prog w) (ktrTop dp un gd cn cs L a ccd cl outer) (call (.ref 172) [.str x t0]) Q E s := by
  revert X; k_fill; intro X
  k_with "state" => (first | exact ⟨Int.le_refl _, Int.natCast_nonneg _, LeadP.zero _⟩ | (exact ⟨by omega, by omega, LeadP.next (by with_reducible assumption) (by with_reducible assumption)⟩))
  refine wpAny_call ?_
  k_dflt (refine' code_def ?k1 ?k2 ?k3 ?k4 ?k5 ?kA ?kF ?kK ?k6 ?k7 ?k8 ?k9 ?kB ?_ ?c2 ?c3 ?c4 ?c5; (case kA => exact rfl); (case kF => exact rfl); (case kK => assumption); (case k1 => k_asm); (case k2 => k_asm); (case k3 => k_asm); (case k4 => k_asm); (case k5 => k_asm); (case k6 => k_is); (case k7 => k_is); (case k8 => ktr_room); (case k9 => exact BindsTo.of_eq rfl); (case c5 => decide); (case kB => exact locs rfl); (case c2 => exact rfl); (case c3 => exact rfl); (case c4 => exact rfl); k_whole; intro g' L' h' FG' F' N' B' X' T'; (try dsimp only); (try k_lift B'); (try k_fold))
  repeat' ((fail_if_success (with_reducible show Q _ _)); (fail_if_success (with_reducible show wpAny _ _ (exec (Stmt.While _ _ _ _) _) _ _ _)); (fail_if_success (with_reducible show wpAny _ _ (exec (Stmt.Raise _ _ _) _) _ _ _)); first | (k_unfold; (try dsimp only)) | (with_reducible refine stripQ ?_; k_unfold; (try dsimp only)) | (k_end; wrow_close) | walk1 | (dsimp only; walk1) | (leave1; walk_say "STEP leave1"; try dsimp only))
  k_while (fun _ i => 0 ≤ i ∧ i ≤ (x.length : Int) ∧ LeadP x i) (fun _ i => x.length - i.toNat) "at"
  repeat' ((fail_if_success (with_reducible show Q _ _)); (fail_if_success (with_reducible show wpAny _ _ (exec (Stmt.While _ _ _ _) _) _ _ _)); (fail_if_success (with_reducible show wpAny _ _ (exec (Stmt.Raise _ _ _) _) _ _ _)); first | (k_unfold; (try dsimp only)) | (with_reducible refine stripQ ?_; k_unfold; (try dsimp only)) | (k_end; wrow_close) | walk1 | (dsimp only; walk1) | (leave1; walk_say "STEP leave1"; try dsimp only))
  · have hla := lead_at1 (by with_reducible assumption : LeadP x _) (by omega) (by omega) (by with_reducible assumption)
    exact hret _ _ _ _ hla (rl_dT (by with_reducible assumption) (by with_reducible assumption)) (by with_reducible assumption) (by with_reducible assumption)
  · have hla := lead_at1 (by with_reducible assumption : LeadP x _) (by omega) (by omega) (by with_reducible assumption)
    exact hret _ _ _ _ hla (rl_dF (by with_reducible assumption) (by with_reducible assumption) (by with_reducible assumption)) (by with_reducible assumption) (by with_reducible assumption)
  · have hla := lead_at1 (by with_reducible assumption : LeadP x _) (by omega) (by omega) (by with_reducible assumption)
    k_dflt (refine' raise_walk rfl ?_)
    repeat' ((fail_if_success (with_reducible show Q _ _)); (fail_if_success (with_reducible show wpAny _ _ (call (Value.ref _) _) _ _ _)); (fail_if_success (with_reducible show wpAny _ _ (exec (Stmt.Raise _ _ _) _) _ _ _)); (fail_if_success (with_reducible show RaiseEnd _ _ _)); first | (k_unfold; (try dsimp only)) | (with_reducible refine stripQ ?_; k_unfold; (try dsimp only)) | (k_end; wrow_close) | walk1 | (dsimp only; walk1) | (leave1; walk_say "STEP leave1"; try dsimp only))
    k_dflt (refine' fault_ct ?ybx2 ?yfx2 ?yxx2 ?ynx2 ?ytx2 ?ykx2  ?ydx2 ?yux2 ?yrx2)
    case ybx2 => k_asm
    case yfx2 => k_asm
    case yxx2 => k_asm
    case ynx2 => k_asm
    case ytx2 => k_asm
    case ykx2 => exact rfl
    case ydx2 => first | ktr_room | omega | (show _ + 1 + _ < _; omega)
    case yux2 => first | ktr_units | omega | (show _ + 3 + _ < cLine; rw [cLine_is]; omega)
    intro h6 e6 D6 tp6 tka tkb tkc F6 N6 l6 l7
    repeat' ((fail_if_success (with_reducible show Q _ _)); (fail_if_success (with_reducible show wpAny _ _ (call (Value.ref _) _) _ _ _)); (fail_if_success (with_reducible show wpAny _ _ (exec (Stmt.Raise _ _ _) _) _ _ _)); (fail_if_success (with_reducible show RaiseEnd _ _ _)); first | (k_unfold; (try dsimp only)) | (with_reducible refine stripQ ?_; k_unfold; (try dsimp only)) | (k_end; wrow_close) | walk1 | (dsimp only; walk1) | (leave1; walk_say "STEP leave1"; try dsimp only))
    refine ⟨_, _, _, rfl, cls63 (X'.keeps F6.keep), (N6 _ (.head _)).1, ?_⟩
    k_dflt (refine' leave_raiseD (oe := excIn 63 (some D6) (fvs tp6)) B' F6 (news_drop (news := news) N6 (by intro q hq; first | exact hq | simp [hq])) (news_one N6) (ne_all l7 l6 (by intro q hq; first | exact hq | simp [hq])) rfl rfl rfl rfl rfl ?lqx1)
    case lqx1 =>
      intro h9 R9 U9
      exact hraise _ _ _ _ _ _ _ _ _ _ _ _ hla (rl_dN (by with_reducible assumption) (by with_reducible assumption) (by with_reducible assumption)) (R9.down FG'.keep) FG' ((Heap.UpToSlots.of_keeps F6.keep).trans U9)
  · have hla := lead_at1 (by with_reducible assumption : LeadP x _) (by omega) (by omega) (by with_reducible assumption)
    exact hret _ _ _ _ hla (rl_T (by with_reducible assumption) (by with_reducible assumption)) (by with_reducible assumption) (by with_reducible assumption)
  · have hla := lead_at1 (by with_reducible assumption : LeadP x _) (by omega) (by omega) (by with_reducible assumption)
    exact hret _ _ _ _ hla (rl_F (by with_reducible assumption) (by with_reducible assumption) (by with_reducible assumption)) (by with_reducible assumption) (by with_reducible assumption)
  · have hla := lead_at1 (by with_reducible assumption : LeadP x _) (by omega) (by omega) (by with_reducible assumption)
    k_dflt (refine' raise_walk rfl ?_)
    repeat' ((fail_if_success (with_reducible show Q _ _)); (fail_if_success (with_reducible show wpAny _ _ (call (Value.ref _) _) _ _ _)); (fail_if_success (with_reducible show wpAny _ _ (exec (Stmt.Raise _ _ _) _) _ _ _)); (fail_if_success (with_reducible show RaiseEnd _ _ _)); first | (k_unfold; (try dsimp only)) | (with_reducible refine stripQ ?_; k_unfold; (try dsimp only)) | (k_end; wrow_close) | walk1 | (dsimp only; walk1) | (leave1; walk_say "STEP leave1"; try dsimp only))
    k_dflt (refine' fault_ct ?ybx4 ?yfx4 ?yxx4 ?ynx4 ?ytx4 ?ykx4  ?ydx4 ?yux4 ?yrx4)
    case ybx4 => k_asm
    case yfx4 => k_asm
    case yxx4 => k_asm
    case ynx4 => k_asm
    case ytx4 => k_asm
    case ykx4 => exact rfl
    case ydx4 => first | ktr_room | omega | (show _ + 1 + _ < _; omega)
    case yux4 => first | ktr_units | omega | (show _ + 3 + _ < cLine; rw [cLine_is]; omega)
    intro h6 e6 D6 tp6 tka tkb tkc F6 N6 l6 l7
    repeat' ((fail_if_success (with_reducible show Q _ _)); (fail_if_success (with_reducible show wpAny _ _ (call (Value.ref _) _) _ _ _)); (fail_if_success (with_reducible show wpAny _ _ (exec (Stmt.Raise _ _ _) _) _ _ _)); (fail_if_success (with_reducible show RaiseEnd _ _ _)); first | (k_unfold; (try dsimp only)) | (with_reducible refine stripQ ?_; k_unfold; (try dsimp only)) | (k_end; wrow_close) | walk1 | (dsimp only; walk1) | (leave1; walk_say "STEP leave1"; try dsimp only))
    refine ⟨_, _, _, rfl, cls63 (X'.keeps F6.keep), (N6 _ (.head _)).1, ?_⟩
    k_dflt (refine' leave_raiseD (oe := excIn 63 (some D6) (fvs tp6)) B' F6 (news_drop (news := news) N6 (by intro q hq; first | exact hq | simp [hq])) (news_one N6) (ne_all l7 l6 (by intro q hq; first | exact hq | simp [hq])) rfl rfl rfl rfl rfl ?lqx3)
    case lqx3 =>
      intro h9 R9 U9
      exact hraise _ _ _ _ _ _ _ _ _ _ _ _ hla (rl_N (by with_reducible assumption) (by with_reducible assumption) (by with_reducible assumption)) (R9.down FG'.keep) FG' ((Heap.UpToSlots.of_keeps F6.keep).trans U9)
  · have hla := lead_at2 (by with_reducible assumption : LeadP x _) (by omega) (by omega) (by omega)
    exact hret _ _ _ _ hla (rl_dT (by with_reducible assumption) (by with_reducible assumption)) (by with_reducible assumption) (by with_reducible assumption)
  · have hla := lead_at2 (by with_reducible assumption : LeadP x _) (by omega) (by omega) (by omega)
    exact hret _ _ _ _ hla (rl_dF (by with_reducible assumption) (by with_reducible assumption) (by with_reducible assumption)) (by with_reducible assumption) (by with_reducible assumption)
  · have hla := lead_at2 (by with_reducible assumption : LeadP x _) (by omega) (by omega) (by omega)
    k_dflt (refine' raise_walk rfl ?_)
    repeat' ((fail_if_success (with_reducible show Q _ _)); (fail_if_success (with_reducible show wpAny _ _ (call (Value.ref _) _) _ _ _)); (fail_if_success (with_reducible show wpAny _ _ (exec (Stmt.Raise _ _ _) _) _ _ _)); (fail_if_success (with_reducible show RaiseEnd _ _ _)); first | (k_unfold; (try dsimp only)) | (with_reducible refine stripQ ?_; k_unfold; (try dsimp only)) | (k_end; wrow_close) | walk1 | (dsimp only; walk1) | (leave1; walk_say "STEP leave1"; try dsimp only))
    k_dflt (refine' fault_ct ?ybx6 ?yfx6 ?yxx6 ?ynx6 ?ytx6 ?ykx6  ?ydx6 ?yux6 ?yrx6)
    case ybx6 => k_asm
    case yfx6 => k_asm
    case yxx6 => k_asm
    case ynx6 => k_asm
    case ytx6 => k_asm
    case ykx6 => exact rfl
    case ydx6 => first | ktr_room | omega | (show _ + 1 + _ < _; omega)
    case yux6 => first | ktr_units | omega | (show _ + 3 + _ < cLine; rw [cLine_is]; omega)
    intro h6 e6 D6 tp6 tka tkb tkc F6 N6 l6 l7
    repeat' ((fail_if_success (with_reducible show Q _ _)); (fail_if_success (with_reducible show wpAny _ _ (call (Value.ref _) _) _ _ _)); (fail_if_success (with_reducible show wpAny _ _ (exec (Stmt.Raise _ _ _) _) _ _ _)); (fail_if_success (with_reducible show RaiseEnd _ _ _)); first | (k_unfold; (try dsimp only)) | (with_reducible refine stripQ ?_; k_unfold; (try dsimp only)) | (k_end; wrow_close) | walk1 | (dsimp only; walk1) | (leave1; walk_say "STEP leave1"; try dsimp only))
    refine ⟨_, _, _, rfl, cls63 (X'.keeps F6.keep), (N6 _ (.head _)).1, ?_⟩
    k_dflt (refine' leave_raiseD (oe := excIn 63 (some D6) (fvs tp6)) B' F6 (news_drop (news := news) N6 (by intro q hq; first | exact hq | simp [hq])) (news_one N6) (ne_all l7 l6 (by intro q hq; first | exact hq | simp [hq])) rfl rfl rfl rfl rfl ?lqx5)
    case lqx5 =>
      intro h9 R9 U9
      exact hraise _ _ _ _ _ _ _ _ _ _ _ _ hla (rl_dN (by with_reducible assumption) (by with_reducible assumption) (by with_reducible assumption)) (R9.down FG'.keep) FG' ((Heap.UpToSlots.of_keeps F6.keep).trans U9)
  · have hla := lead_at2 (by with_reducible assumption : LeadP x _) (by omega) (by omega) (by omega)
    exact hret _ _ _ _ hla (rl_T (by with_reducible assumption) (by with_reducible assumption)) (by with_reducible assumption) (by with_reducible assumption)
  · have hla := lead_at2 (by with_reducible assumption : LeadP x _) (by omega) (by omega) (by omega)
    exact hret _ _ _ _ hla (rl_F (by with_reducible assumption) (by with_reducible assumption) (by with_reducible assumption)) (by with_reducible assumption) (by with_reducible assumption)
  · have hla := lead_at2 (by with_reducible assumption : LeadP x _) (by omega) (by omega) (by omega)
    k_dflt (refine' raise_walk rfl ?_)
    repeat' ((fail_if_success (with_reducible show Q _ _)); (fail_if_success (with_reducible show wpAny _ _ (call (Value.ref _) _) _ _ _)); (fail_if_success (with_reducible show wpAny _ _ (exec (Stmt.Raise _ _ _) _) _ _ _)); (fail_if_success (with_reducible show RaiseEnd _ _ _)); first | (k_unfold; (try dsimp only)) | (with_reducible refine stripQ ?_; k_unfold; (try dsimp only)) | (k_end; wrow_close) | walk1 | (dsimp only; walk1) | (leave1; walk_say "STEP leave1"; try dsimp only))
    k_dflt (refine' fault_ct ?ybx8 ?yfx8 ?yxx8 ?ynx8 ?ytx8 ?ykx8  ?ydx8 ?yux8 ?yrx8)
    case ybx8 => k_asm
    case yfx8 => k_asm
    case yxx8 => k_asm
    case ynx8 => k_asm
    case ytx8 => k_asm
    case ykx8 => exact rfl
    case ydx8 => first | ktr_room | omega | (show _ + 1 + _ < _; omega)
    case yux8 => first | ktr_units | omega | (show _ + 3 + _ < cLine; rw [cLine_is]; omega)
    intro h6 e6 D6 tp6 tka tkb tkc F6 N6 l6 l7
    repeat' ((fail_if_success (with_reducible show Q _ _)); (fail_if_success (with_reducible show wpAny _ _ (call (Value.ref _) _) _ _ _)); (fail_if_success (with_reducible show wpAny _ _ (exec (Stmt.Raise _ _ _) _) _ _ _)); (fail_if_success (with_reducible show RaiseEnd _ _ _)); first | (k_unfold; (try dsimp only)) | (with_reducible refine stripQ ?_; k_unfold; (try dsimp only)) | (k_end; wrow_close) | walk1 | (dsimp only; walk1) | (leave1; walk_say "STEP leave1"; try dsimp only))
    refine ⟨_, _, _, rfl, cls63 (X'.keeps F6.keep), (N6 _ (.head _)).1, ?_⟩
    k_dflt (refine' leave_raiseD (oe := excIn 63 (some D6) (fvs tp6)) B' F6 (news_drop (news := news) N6 (by intro q hq; first | exact hq | simp [hq])) (news_one N6) (ne_all l7 l6 (by intro q hq; first | exact hq | simp [hq])) rfl rfl rfl rfl rfl ?lqx7)
    case lqx7 =>
      intro h9 R9 U9
      exact hraise _ _ _ _ _ _ _ _ _ _ _ _ hla (rl_N (by with_reducible assumption) (by with_reducible assumption) (by with_reducible assumption)) (R9.down FG'.keep) FG' ((Heap.UpToSlots.of_keeps F6.keep).trans U9)

end Mine
end
section
namespace Mine

def rtextS (x : Str) (n : Int) : Str := if n ≤ (x.length : Int) then Txt.slice x (some ((x.length : Int) - n)) none else x ++ Txt.mul (Str.ofString " ") (n - x.length)
def atT (x : Str) (n : Int) (k : Int) : Int := k + if (x.length : Int) - n > 0 then (x.length : Int) - n else 0
def ltextT (x : Str) (n : Int) (f : Str) (k : Int) : Str := if atT x n k < (x.length : Int) then f ++ Txt.item x (atT x n k) else f ++ Str.ofString " "
def ltextS (x : Str) (n : Int) (l : List Int) : Str := l.foldl (ltextT x n) (Str.ofString "")
def lawText (x : Str) (n : Int) : Res := ⟨told, .s (ltextS x n (rangeKs 0 (n - 0).toNat))⟩
theorem lx_snoc (x : Str) (n : Int) (l : List Int) (k : Int) : ltextS x n (l ++ [k]) = ltextT x n (ltextS x n l) k := by unfold ltextS; rw [List.foldl_append]; rfl
theorem lx_in {x : Str} {n k : Int} {l : List Int} {f : Str} (h : f = ltextS x n l) (hl : f.length ≤ l.length) (hc : (k + if (x.length : Int) - n > 0 then (x.length : Int) - n else 0) < (x.length : Int)) :
    f ++ Txt.item x (k + if (x.length : Int) - n > 0 then (x.length : Int) - n else 0) = ltextS x n (l ++ [k]) ∧ (f ++ Txt.item x (k + if (x.length : Int) - n > 0 then (x.length : Int) - n else 0)).length ≤ (l ++ [k]).length := by
  refine ⟨?_, ?_⟩
  · rw [lx_snoc, ← h]; unfold ltextT atT; rw [if_pos hc]
  · rw [PySem.Str.length_append, PyProof.Rows.len_item, List.length_append, List.length_singleton]; omega
theorem lx_out {x : Str} {n k : Int} {l : List Int} {f : Str} (h : f = ltextS x n l) (hl : f.length ≤ l.length) (hc : ¬ (k + if (x.length : Int) - n > 0 then (x.length : Int) - n else 0) < (x.length : Int)) :
    f ++ Str.ofString " " = ltextS x n (l ++ [k]) ∧ (f ++ Str.ofString " ").length ≤ (l ++ [k]).length := by
  refine ⟨?_, ?_⟩
  · rw [lx_snoc, ← h]; unfold ltextT atT; rw [if_neg hc]
  · rw [PySem.Str.length_append, List.length_append, List.length_singleton, show (Str.ofString " ").length = 1 from by decide]; omega
theorem rt_in {x : Str} {n : Int} (h : n ≤ (x.length : Int)) : Txt.slice x (some ((x.length : Int) - n)) none = rtextS x n := by unfold rtextS; rw [if_pos h]
theorem rt_out {x : Str} {n : Int} (h : ¬ n ≤ (x.length : Int)) : x ++ Txt.mul (Str.ofString " ") (n - x.length) = rtextS x n := by unfold rtextS; rw [if_neg h]
theorem str_is {x y : Str} {t : Tok} {Q : Value → Shared → Prop} {s : Shared} (e : x = y) (h : Q (.str y t) s) : Q (.str x t) s := by subst e; exact h
set_option maxRecDepth 100000 in
set_option maxHeartbeats 8000000 in
theorem rtext_ct {w : World} {p : Program} {loose : List Str} {mean : ExcName → Option Value} {mg mb : Str → Option Value}
    {dp un : Nat} {gd : Option (List Code)} {cn : Str} {cs : Scope} {a : Addr} {ccd : Value} {cl : List (Str × Addr)} {outer : List Env} {A₀ : Around} {base h₀ : Heap} {L : Addr} {m : Str → Option Value} {s : Shared} {Q E : Value → Shared → Prop}
    {x : Str} {t0 t1 : Tok} {n : Int} {news : List (Addr × Obj)}
    (B : Below A₀ base outer h₀) (F : Fr h₀ L s.heap m) (X : (Mine.hd.heap_1 w.params).In h₀) (N : News h₀ L s.heap news) (T : Top p loose mean mg mb h₀) (hk : cs.kind = .function)
    (hx : x.length ≤ 100) (hn0 : 0 ≤ n) (hn : n ≤ 100) (hdp : dp + 10 < recursionLimit) (hun : un ≤ 200)
    (hret : ∀ (t : Tok) (h' : Heap) (tk' : Nat), Fr h₀ L h' m → News h₀ L h' news → Q (.str (rtextS x n) t) { s with heap := h', toks := tk' }) :
    wpAny (model PySem.Challenge.rw_pf0120_01.row.prog w) (ktrTop dp un gd cn cs L a ccd cl outer) (call (.ref 179) [.str x t0, .int n t1]) Q E s := by
  revert X; k_fill; intro X
  refine wpAny_call ?_
  k_dflt cell_enter
  repeat' ((fail_if_success (with_reducible show Q _ _)); first | (k_unfold; (try dsimp only)) | (with_reducible refine stripQ ?_; k_unfold; (try dsimp only)) | (k_end; wrow_close) | walk1 | (dsimp only; walk1) | (leave1; walk_say "STEP leave1"; try dsimp only))
  · refine str_is (rt_in (by with_reducible assumption)) ?_
    exact hret _ _ _ (by with_reducible assumption) (by with_reducible assumption)
  · refine str_is (rt_out (by with_reducible assumption)) ?_
    exact hret _ _ _ (by with_reducible assumption) (by with_reducible assumption)
set_option maxRecDepth 100000 in
set_option maxHeartbeats 8000000 in
theorem ltext_ct {w : World} {p : Program} {loose : List Str} {mean : ExcName → Option Value} {mg mb : Str → Option Value}
    {dp un : Nat} {gd : Option (List Code)} {cn : Str} {cs : Scope} {a : Addr} {ccd : Value} {cl : List (Str × Addr)} {outer : List Env} {A₀ : Around} {base h₀ : Heap} {L : Addr} {m : Str → Option Value} {s : Shared} {Q E : Value → Shared → Prop}
    {x : Str} {t0 t1 : Tok} {n : Int} {news : List (Addr × Obj)}
    (B : Below A₀ base outer h₀) (F : Fr h₀ L s.heap m) (X : (Mine.hd.heap_1 w.params).In h₀) (N : News h₀ L s.heap news) (T : Top p loose mean mg mb h₀) (hk : cs.kind = .function)
    (hx : x.length ≤ 100) (hn0 : 0 ≤ n) (hn : n ≤ 100) (hdp : dp + 10 < recursionLimit) (hun : un ≤ 200)
    (hret : ∀ (r : Addr) (t t' : Tok) (h' : Heap) (tk' : Nat), Fr h₀ L h' m → News h₀ L h' ((r, resObj (lawText x n) t t') :: news) → (∀ q ∈ news, q.1 < r) → Q (.ref r) { s with heap := h', toks := tk' }) :
    wpAny (model PySem.Challenge.rw_pf0120_01.row.prog w) (ktrTop dp un gd cn cs L a ccd cl outer) (call (.ref 239) [.str x t0, .int n t1]) Q E s := by
  revert X; k_fill; intro X
  k_with "pyIter ref" => k_state (fun pre f => f = ltextS x n pre ∧ f.length ≤ pre.length) "found"
  k_with "state" => (first | exact ⟨rfl, by decide⟩ | exact lx_in (by with_reducible assumption) (by with_reducible assumption) (by with_reducible assumption) | exact lx_out (by with_reducible assumption) (by with_reducible assumption) (by with_reducible assumption))
  refine wpAny_call ?_
  k_dflt cell_enter
  repeat' ((fail_if_success (with_reducible show Q _ _)); first | (k_unfold; (try dsimp only)) | (with_reducible refine stripQ ?_; k_unfold; (try dsimp only)) | (k_end; wrow_close) | walk1 | (dsimp only; walk1) | (leave1; walk_say "STEP leave1"; try dsimp only))
  · (rename (_ = ltextS _ _ _) => e9)
    (refine' hret _ _ _ _ _ ?zf (res_s ?ze (news_top ?zn ?zs)) ?zo; (case zn => with_reducible assumption); (case zf => with_reducible assumption); (case ze => exact by rw [e9]; rfl); (case zs => (intro q hq; (first | exact hq | (simp only [List.mem_cons, List.mem_append]; simp [hq])))); (case zo => (first | with_reducible assumption | ((rename (@LT.lt Nat _ _ _ ∧ _) => hz9); (repeat (first | exact allLt_mem hz9 | exact allLt_app hz9 | replace hz9 := hz9.2))))))
end Mine
end
section
namespace Mine
abbrev itemL (t t' : Tok) : Obj := tup2 (.str "L" t) (.int 5 t')
abbrev itemA (t : Tok) : Obj := tup2 (.str "A" t) .none

theorem words_in {prog : Program} {w : World} {A : Around} {E : Value → Shared → Prop} {s : Shared} {h₀ : Heap} {L : Addr} {m : Str → Option Value} {x : Str} {u : Tok} {b : Bool} {Q : Value → Shared → Prop}
    (F : Fr h₀ L s.heap m) (X₀ : (Mine.hd.heap_1 w.params).In h₀) (hb : [Str.ofString "F", Str.ofString "E", Str.ofString "D", Str.ofString "G"].any (· == x) = b) (h : Q (.bool b) s) : wpAny (model prog w) A (compareOp .In (.str x u) (.ref 102)) Q E s := by
  have t : ∃ it, IsTup s.heap 102 it ∧ StrsAre it.toList [Str.ofString "F", Str.ofString "E", Str.ofString "D", Str.ofString "G"] := ⟨_, ⟨_, (X₀.keeps F.keep) 102 _ rfl, rfl, _, rfl⟩, by repeat constructor⟩
  obtain ⟨it, ht, hi⟩ := t
  refine in_tuple_strs ht hi ?_
  rw [hb]
  exact h
set_option maxRecDepth 100000 in
set_option maxHeartbeats 8000000 in
theorem rvalL_ct {w : World} {p : Program} {loose : List Str} {mean : ExcName → Option Value} {mg mb : Str → Option Value}
    {dp un : Nat} {gd : Option (List Code)} {cn : Str} {cs : Scope} {a : Addr} {ccd : Value} {cl : List (Str × Addr)} {outer : List Env} {A₀ : Around} {base h₀ : Heap} {L : Addr} {m : Str → Option Value} {s : Shared} {Q E : Value → Shared → Prop}
    {x : Str} {t0 t1 t2 tk tn tz : Tok} {n : Int} {z : Bool} {it lim : Addr} {news : List (Addr × Obj)}
    (B : Below A₀ base outer h₀) (F : Fr h₀ L s.heap m) (X : (Mine.hd.heap_1 w.params).In h₀) (N : News h₀ L s.heap news) (T : Top p loose mean mg mb h₀) (hk : cs.kind = .function)
    (hi : (it, itemL t1 t2) ∈ news) (hx : x.length ≤ 60) (hdp : dp + 24 < recursionLimit) (hun : un ≤ 80) (hraise : ∀ (i c : Int) (e D : Addr) (x' : Str) (t0 t1 tk1 tk2 : Tok) (G h' : Heap) (tk' : Nat), LeadAt x i → readLogS x i = .bad c → RaisedD base h₀ (envX cn cs L a ccd cl :: outer) e (.ref 63) D ((D, faultD w.params c x' t0 t1 tk1 tk2) :: news) h' → Fr h₀ L G m → G.UpToSlots h' → E (.ref e) { s with heap := h', toks := tk' })
    (hret : ∀ (i : Int) (b : Bool) (h' : Heap) (tk' : Nat), LeadAt x i → readLogS x i = .ok (.b b) → Fr h₀ L h' m → News h₀ L h' news → Q (.bool b) { s with heap := h', toks := tk' }) :
    wpAny (model PySem.Challenge.rw_pf0120_01.row.prog w) (ktrTop dp un gd cn cs L a ccd cl outer) (call (.ref 186) [.ref it, .int 4 tk, .int n tn, .str x t0, .int 0 tz, .bool z, .ref lim]) Q E s := by
  revert X; k_fill; intro X
  refine wpAny_call ?_
  k_dflt (refine' code_def ?k1 ?k2 ?k3 ?k4 ?k5 ?kA ?kF ?kK ?k6 ?k7 ?k8 ?k9 ?kB ?_ ?c2 ?c3 ?c4 ?c5; (case kA => exact rfl); (case kF => exact rfl); (case kK => assumption); (case k1 => k_asm); (case k2 => k_asm); (case k3 => k_asm); (case k4 => k_asm); (case k5 => k_asm); (case k6 => k_is); (case k7 => k_is); (case k8 => ktr_room); (case k9 => exact BindsTo.of_eq rfl); (case c5 => decide); (case kB => exact locs rfl); (case c2 => exact rfl); (case c3 => exact rfl); (case c4 => exact rfl); k_whole; intro g' L' h' FG' F' N' B' X' T'; (try dsimp only); (try k_lift B'); (try k_fold))
  repeat' ((fail_if_success (with_reducible show Q _ _)); (fail_if_success (with_reducible show wpAny _ _ (call (Value.ref _) _) _ _ _)); (fail_if_success (with_reducible show wpAny _ _ (compareOp CmpOp.In _ _) _ _ _)); first | (k_unfold; (try dsimp only)) | (with_reducible refine stripQ ?_; k_unfold; (try dsimp only)) | (k_end; wrow_close) | walk1 | (dsimp only; walk1) | (leave1; walk_say "STEP leave1"; try dsimp only))
  k_dflt (refine' words_in ?wF ?wX (b := false) ?wb ?_)
  case wF => k_asm
  case wX => k_asm
  case wb => decide
  repeat' ((fail_if_success (with_reducible show Q _ _)); (fail_if_success (with_reducible show wpAny _ _ (call (Value.ref _) _) _ _ _)); first | (k_unfold; (try dsimp only)) | (with_reducible refine stripQ ?_; k_unfold; (try dsimp only)) | (k_end; wrow_close) | walk1 | (dsimp only; walk1) | (leave1; walk_say "STEP leave1"; try dsimp only))
  k_dflt (refine' readlog_ct ?ybx1 ?yfx1 ?yxx1 ?ynx1 ?ytx1 ?ykx1 hx ?ydx1 ?yux1 ?yex1 ?yrx1)
  case ybx1 => k_asm
  case yfx1 => k_asm
  case yxx1 => k_asm
  case ynx1 => k_asm
  case ytx1 => k_asm
  case ykx1 => exact rfl
  case ydx1 => (show dp + 1 + 20 < _; omega)
  case yux1 => (show un + 3 ≤ 100; omega)
  case yex1 =>
    intro i c e D x' u0 u1 u2 u3 G h9 tk9 hla hbad R9 G9 U9
    exact leave_onD1 B' G9 R9 fun h10 R10 U10 => hraise _ _ _ _ _ _ _ _ _ _ _ _ hla hbad (R10.down FG'.keep) FG' ((Heap.UpToSlots.of_keeps G9.keep).trans (U9.trans U10))
  intro i b h7 tk7 hla hok F7 N7
  repeat' ((fail_if_success (with_reducible show Q _ _)); (fail_if_success (with_reducible show wpAny _ _ (call (Value.ref _) _) _ _ _)); first | (k_unfold; (try dsimp only)) | (with_reducible refine stripQ ?_; k_unfold; (try dsimp only)) | (k_end; wrow_close) | walk1 | (dsimp only; walk1) | (leave1; walk_say "STEP leave1"; try dsimp only))
  exact hret _ _ _ _ hla hok (by with_reducible assumption) (by with_reducible assumption)
end Mine
end
section
namespace Mine
set_option maxRecDepth 100000 in
set_option maxHeartbeats 8000000 in
theorem rvalA_ct {w : World} {p : Program} {loose : List Str} {mean : ExcName → Option Value} {mg mb : Str → Option Value}
    {dp un : Nat} {gd : Option (List Code)} {cn : Str} {cs : Scope} {a : Addr} {ccd : Value} {cl : List (Str × Addr)} {outer : List Env} {A₀ : Around} {base h₀ : Heap} {L : Addr} {m : Str → Option Value} {s : Shared} {Q E : Value → Shared → Prop}
    {x : Str} {t0 t1 tk tn tz : Tok} {n : Int} {z : Bool} {it lim : Addr} {news : List (Addr × Obj)}
    (B : Below A₀ base outer h₀) (F : Fr h₀ L s.heap m) (X : (Mine.hd.heap_1 w.params).In h₀) (N : News h₀ L s.heap news) (T : Top p loose mean mg mb h₀) (hk : cs.kind = .function)
    (hi : (it, itemA t1) ∈ news) (hx : x.length ≤ 60) (hn0 : 0 ≤ n) (hn1 : n ≤ 60) (hdp : dp + 24 < recursionLimit) (hun : un ≤ 80)
    (hret : ∀ (t : Tok) (h' : Heap) (tk' : Nat), Fr h₀ L h' m → News h₀ L h' news → Q (.str (rtextS x n) t) { s with heap := h', toks := tk' }) :
    wpAny (model PySem.Challenge.rw_pf0120_01.row.prog w) (ktrTop dp un gd cn cs L a ccd cl outer) (call (.ref 186) [.ref it, .int 5 tk, .int n tn, .str x t0, .int 0 tz, .bool z, .ref lim]) Q E s := by
  revert X; k_fill; intro X
  refine wpAny_call ?_
  k_dflt (refine' code_def ?k1 ?k2 ?k3 ?k4 ?k5 ?kA ?kF ?kK ?k6 ?k7 ?k8 ?k9 ?kB ?_ ?c2 ?c3 ?c4 ?c5; (case kA => exact rfl); (case kF => exact rfl); (case kK => assumption); (case k1 => k_asm); (case k2 => k_asm); (case k3 => k_asm); (case k4 => k_asm); (case k5 => k_asm); (case k6 => k_is); (case k7 => k_is); (case k8 => ktr_room); (case k9 => exact BindsTo.of_eq rfl); (case c5 => decide); (case kB => exact locs rfl); (case c2 => exact rfl); (case c3 => exact rfl); (case c4 => exact rfl); k_whole; intro g' L' h' FG' F' N' B' X' T'; (try dsimp only); (try k_lift B'); (try k_fold))
  repeat' ((fail_if_success (with_reducible show Q _ _)); (fail_if_success (with_reducible show wpAny _ _ (call (Value.ref _) _) _ _ _)); (fail_if_success (with_reducible show wpAny _ _ (compareOp CmpOp.In _ _) _ _ _)); first | (k_unfold; (try dsimp only)) | (with_reducible refine stripQ ?_; k_unfold; (try dsimp only)) | (k_end; wrow_close) | walk1 | (dsimp only; walk1) | (leave1; walk_say "STEP leave1"; try dsimp only))
  k_dflt (refine' words_in ?wF ?wX (b := false) ?wb ?_)
  case wF => k_asm
  case wX => k_asm
  case wb => decide
  repeat' ((fail_if_success (with_reducible show Q _ _)); (fail_if_success (with_reducible show wpAny _ _ (call (Value.ref _) _) _ _ _)); first | (k_unfold; (try dsimp only)) | (with_reducible refine stripQ ?_; k_unfold; (try dsimp only)) | (k_end; wrow_close) | walk1 | (dsimp only; walk1) | (leave1; walk_say "STEP leave1"; try dsimp only))
  k_dflt (refine' rtext_ct ?ybx1 ?yfx1 ?yxx1 ?ynx1 ?ytx1 ?ykx1 (by omega) hn0 (by omega) ?ydx1 ?yux1 ?yrx1)
  case ybx1 => k_asm
  case yfx1 => k_asm
  case yxx1 => k_asm
  case ynx1 => k_asm
  case ytx1 => k_asm
  case ykx1 => exact rfl
  case ydx1 => first | ktr_room | omega | (show dp + 1 + 10 < _; omega)
  case yux1 => first | ktr_units | omega | (show un + 3 ≤ 200; omega)
  intro t7 h7 tk7 F7 N7
  repeat' ((fail_if_success (with_reducible show Q _ _)); (fail_if_success (with_reducible show wpAny _ _ (call (Value.ref _) _) _ _ _)); first | (k_unfold; (try dsimp only)) | (with_reducible refine stripQ ?_; k_unfold; (try dsimp only)) | (k_end; wrow_close) | walk1 | (dsimp only; walk1) | (leave1; walk_say "STEP leave1"; try dsimp only))
  exact hret _ _ _ (by with_reducible assumption) (by with_reducible assumption)
abbrev limD (P : Params) (width : Int) (k0 k1 k2 k3 k4 k5 k6 k7 u0 u1 u2 u3 u4 u5 u6 u7 : Tok) : Obj := dictOf [⟨PyData.keyHash P "width", .str "width" k0, .int width u0⟩, ⟨PyData.keyHash P "real_digits", .str "real_digits" k1, .int 7 u1⟩, ⟨PyData.keyHash P "double_digits", .str "double_digits" k2, .int 15 u2⟩, ⟨PyData.keyHash P "top_exponent", .str "top_exponent" k3, .int 38 u3⟩, ⟨PyData.keyHash P "steps", .str "steps" k4, .int 1000000 u4⟩, ⟨PyData.keyHash P "continuations", .str "continuations" k5, .int 19 u5⟩, ⟨PyData.keyHash P "columns", .str "columns" k6, .int 72 u6⟩, ⟨PyData.keyHash P "depth", .str "depth" k7, .int 40 u7⟩] 8
abbrev itemI (t t' : Tok) : Obj := { cls := .type "tuple", data := .seq #[.str "I" t, .int 5 t', .none] }
set_option maxRecDepth 100000 in
set_option maxHeartbeats 8000000 in
theorem rvalI_ct {w : World} {p : Program} {loose : List Str} {mean : ExcName → Option Value} {mg mb : Str → Option Value}
    {dp un : Nat} {gd : Option (List Code)} {cn : Str} {cs : Scope} {a : Addr} {ccd : Value} {cl : List (Str × Addr)} {outer : List Env} {A₀ : Around} {base h₀ : Heap} {L : Addr} {m : Str → Option Value} {s : Shared} {Q E : Value → Shared → Prop}
    {x : Str} {t0 t1 t2 tk tn tz k0 k1 k2 k3 k4 k5 k6 k7 u0 u1 u2 u3 u4 u5 u6 u7 : Tok} {n width : Int} {z : Bool} {it lim dx : Addr} {news : List (Addr × Obj)}
    (B : Below A₀ base outer h₀) (F : Fr h₀ L s.heap m) (X : (Mine.hd.heap_1 w.params).In h₀) (N : News h₀ L s.heap news) (T : Top p loose mean mg mb h₀) (hk : cs.kind = .function)
    (hi : (it, itemI t1 t2) ∈ news) (hl : (lim, instObj 204 dx) ∈ news) (hdx : (dx, limD w.params width k0 k1 k2 k3 k4 k5 k6 k7 u0 u1 u2 u3 u4 u5 u6 u7) ∈ news) (hx : x.length ≤ 60) (hw : 4 ≤ width) (hw1 : width ≤ 12) (hdp : dp + 24 < recursionLimit) (hun : un ≤ 80) (hraise : ∀ (c : Int) (e D : Addr) (x' : Str) (t0 t1 tk1 tk2 : Tok) (G h' : Heap) (tk' : Nat), readIntS x z width = .bad c → RaisedD base h₀ (envX cn cs L a ccd cl :: outer) e (.ref 63) D ((D, faultD w.params c x' t0 t1 tk1 tk2) :: news) h' → Fr h₀ L G m → G.UpToSlots h' → E (.ref e) { s with heap := h', toks := tk' })
    (hret : ∀ (n : Int) (t : Tok) (h' : Heap) (tk' : Nat), readIntS x z width = .ok (.i n) → Fr h₀ L h' m → News h₀ L h' news → Q (.int n t) { s with heap := h', toks := tk' }) :
    wpAny (model PySem.Challenge.rw_pf0120_01.row.prog w) (ktrTop dp un gd cn cs L a ccd cl outer) (call (.ref 186) [.ref it, .int 0 tk, .int n tn, .str x t0, .int 0 tz, .bool z, .ref lim]) Q E s := by
  revert X; k_fill; intro X
  refine wpAny_call ?_
  k_dflt (refine' code_def ?k1 ?k2 ?k3 ?k4 ?k5 ?kA ?kF ?kK ?k6 ?k7 ?k8 ?k9 ?kB ?_ ?c2 ?c3 ?c4 ?c5; (case kA => exact rfl); (case kF => exact rfl); (case kK => assumption); (case k1 => k_asm); (case k2 => k_asm); (case k3 => k_asm); (case k4 => k_asm); (case k5 => k_asm); (case k6 => k_is); (case k7 => k_is); (case k8 => ktr_room); (case k9 => exact BindsTo.of_eq rfl); (case c5 => decide); (case kB => exact locs rfl); (case c2 => exact rfl); (case c3 => exact rfl); (case c4 => exact rfl); k_whole; intro g' L' h' FG' F' N' B' X' T'; (try dsimp only); (try k_lift B'); (try k_fold))
  repeat' ((fail_if_success (with_reducible show Q _ _)); (fail_if_success (with_reducible show wpAny _ _ (call (Value.ref _) _) _ _ _)); first | (k_unfold; (try dsimp only)) | (with_reducible refine stripQ ?_; k_unfold; (try dsimp only)) | (k_end; wrow_close) | walk1 | (dsimp only; walk1) | (leave1; walk_say "STEP leave1"; try dsimp only))
  k_dflt (refine' readint_ct ?ybx2 ?yfx2 ?yxx2 ?ynx2 ?ytx2 ?ykx2 hx hw hw1 ?ydx2 ?yux2 ?yex2 ?yrx2)
  case ybx2 => k_asm
  case yfx2 => k_asm
  case yxx2 => k_asm
  case ynx2 => k_asm
  case ytx2 => k_asm
  case ykx2 => exact rfl
  case ydx2 => (show dp + 1 + 20 < _; omega)
  case yux2 => (show un + 3 ≤ 100; omega)
  case yex2 =>
    intro c e D x' u0 u1 u2 u3 G h9 tk9 hbad R9 G9 U9
    exact leave_onD1 B' G9 R9 fun h10 R10 U10 => hraise _ _ _ _ _ _ _ _ _ _ _ hbad (R10.down FG'.keep) FG' ((Heap.UpToSlots.of_keeps G9.keep).trans (U9.trans U10))
  intro n t h7 tk7 hok F7 N7
  repeat' ((fail_if_success (with_reducible show Q _ _)); (fail_if_success (with_reducible show wpAny _ _ (call (Value.ref _) _) _ _ _)); first | (k_unfold; (try dsimp only)) | (with_reducible refine stripQ ?_; k_unfold; (try dsimp only)) | (k_end; wrow_close) | walk1 | (dsimp only; walk1) | (leave1; walk_say "STEP leave1"; try dsimp only))
  exact hret _ _ _ _ hok (by with_reducible assumption) (by with_reducible assumption)
end Mine
end
section
open PySem PySem.W PySem.Builtin PySem.Builtin.ObjectAttr PyProof.Rows
set_option maxRecDepth 100000
namespace Mine
theorem ga63 (P : Params) : findIn (Mine.hd.heap_1 P) (.ref 63) "__getattribute__" = some (some (.builtin "BaseException.__getattribute__")) := by kernel_rfl
theorem gn63 (P : Params) : findIn (Mine.hd.heap_1 P) (.ref 63) "__getattr__" = some none := by kernel_rfl
section
variable {prog : Program} {w : World} {A : Around} {E : Value → Shared → Prop} {h : Heap} {g : Array GenState} {d : Drawn} {t : Nat} {os : OsState} {e D : Addr}
theorem ga_check63 {M : Model} {o : Obj} {nameV : Value} {Q : Unit → Shared → Prop} {nm q : Str} {N : Addr} {bs : List Value} {hdct : Bool} {sn : List Str} {sub : List Value} {ab : Bool} {col : Option Bool} {dd : Option Addr} {k0 k1 k2 k3 k5 : Option Value}
    (hC : h.get? 63 = some (excClassObj nm q 63 N bs bm63 hdct sn sub ab col dd k0 k1 k2 k3 k5 "Exception.__new__"))
    (hx : h.get? e = some o) (hc : o.cls = .ref 63) (hq : Q () ⟨h, g, d, t, os⟩) : wpAny M A (checkBuiltinCall "BaseException.__getattribute__" ⟨[.ref e, nameV], []⟩) Q E ⟨h, g, d, t, os⟩ := by
  have hk : builtinKind "BaseException.__getattribute__" = some .slot := by decide +kernel
  have hsplit : splitId "BaseException.__getattribute__" = some ("BaseException", "__getattribute__") := by decide +kernel
  have hcB : (Value.ref 63 :: bm63).contains (.type "BaseException") = true := by decide
  have ha := F.args_bexc_ga (.ref e) nameV
  simp only [checkBuiltinCall, hk, hsplit]
  refine wpAny_bind ?_
  · unfold isInstance
    repeat (first | (with_reducible refine wpAny_loadPart_at hx ?_; rw [hc]) | (with_reducible refine wpAny_isSubtype_exc hC ?_; rw [hcB]) | wp_step)
    exact hq
theorem get_code {P : Params} {c : Int} {x : Str} {t0 t1 tk1 tk2 : Tok} {o : Obj} {expr : Bool} {Q : Value → Shared → Prop} (X : (Mine.hd.heap_1 w.params).In h) (hx : h.get? e = some o) (hc : o.cls = .ref 63) (hdd : o.dict = some D) {vs : Array Value} (hvs : o.data = .fields vs)
    (hD : h.get? D = some (faultD P c x t0 t1 tk1 tk2)) (hq : Q (.int c t1) ⟨h, g, d, t + 1, os⟩) : wpAny (model prog w) A (getAttr (.ref e) "code" expr) Q E ⟨h, g, d, t, os⟩ := by
  obtain ⟨nm, q, N, bs, hdct, sn, sub, ab, col, dd, k0, k1, k2, k3, k5, hC⟩ := cls63 X
  obtain ⟨cd, hcd, hm, hd⟩ := clsIn63 w.params
  have L1 : Looks (model prog w) h (typeLookup (.ref 63) "__getattribute__") _ := looks_findIn X (ga63 _)
  have L2 : Looks (model prog w) h (typeLookup (.ref 63) "__getattr__") _ := looks_findIn X (gn63 _)
  have L3 : Looks (model prog w) h (typeLookup (.ref 63) "code") _ := looks_findIn X (co63 _)
  have L4 : Looks (model prog w) h (classData 63) cd := looks_clsIn X hcd
  have FB := PySem.F.attrBase_Exception
  have f3 := FB.ga.bind (.ref e)
  have hx0 : (expr && onTheHeap (Value.builtin "BaseException.__getattribute__")) = false := by cases expr <;> rfl
  have hx2 : (Value.builtin "BaseException.__getattribute__" == Value.builtin "object.__getattribute__") = false := by decide +kernel
  have hx1 : (onTheHeap (Value.ref 63) && Value.builtin "BaseException.__getattribute__" == Value.builtin "object.__getattribute__") = false := by rw [hx2]; rfl
  unfold getAttr getAttrBy
  repeat (any_goals (first | assumption | (with_reducible refine wpAny_loadPart_at hx ?_; rw [hc]) | (with_reducible refine L1.at ?_) | (with_reducible refine L2.at ?_) | wp_step))
  refine codeAny_call_builtin FB.ga.plain F.entry_bexc_ga (ga_check63 hC hx hc ?_)
  repeat (any_goals (first | assumption | (with_reducible refine wpAny_loadPart_at hx ?_; rw [hc]) | (with_reducible refine L3.at ?_) | (with_reducible refine L2.at ?_) | wp_step))
  rw [hvs]
  unfold instanceDict
  repeat (any_goals (first | assumption | (with_reducible refine wpAny_loadPart_at hx ?_; rw [hc]) | (with_reducible refine L4.at ?_; rw [hd]) | rw [hdd] | (with_reducible refine wpAny_loadPart_at hD ?_) | wp_step))
end
end Mine
end
section
open PySem PySem.W PySem.Calls PyProof.Rows
set_option maxRecDepth 100000
namespace Mine
section
variable {prog : Program} {w : World} {A₀ A : Around} {s : Shared} {base h₀ g₀ : Heap} {outer : List Env} {L a : Addr} {m : Str → Option Value} {cn : Str} {cs : Scope} {ccd : Value} {cl : List (Str × Addr)} {news : List (Addr × Obj)} {K : Frag}
    {p : Program} {loose : List Str} {mean : ExcName → Option Value} {mg mb : Str → Option Value}
    {R : Result → Shared → Prop} {name qual : Str} {params : Arguments} {body : List Stmt} {scope : Scope} {dV kV doc pm cdv ct oc : Value} {an od : Option Addr} {osl : Array (Option Value)} {f : Addr} {args : Args} {binds : List (Str × Value)}
/-- a call of a def that catches, from a def with cells that is the outermost -/
theorem code_defD0 (B : Below A₀ base [] h₀) (F : Fr h₀ L s.heap m) (X₀ : K.In h₀) (N : News h₀ L s.heap news) (T : Top p loose mean mg mb h₀) (hA : A.frames = some [envX cn cs L a ccd cl])
    (ho : K.lookup f = some ⟨oc, od, .func (fnOf name qual params body scope dV kV doc pm an cdv ct), osl⟩) (hcd : codeIn K cdv qual = true) (hroom : A.depth < recursionLimit)
    (hbind : BindsTo s (fnOf name qual params body scope dV kV doc pm an cdv ct) args binds) (hloc : ∀ y ∈ binds, scope.names.lookup y.1 = some .local)
    (h : ∀ g L' h₁, Fr h₀ L g m → Fr g L' h₁ (fun y => binds.reverse.lookup y) → News g L' h₁ news → Below A base [envX cn cs L a ccd cl] g → h₀.StaysIn g → (∀ b ∈ [envX cn cs L a ccd cl].filterMap (·.frame), h₀.get? b = none) → K.In g → Top p loose mean mg mb g → (∀ q ∈ news, q.1 < L') →
      wpAny (model prog w) (A.deeper (envOf qual scope L' f cdv)) (execs body (envOf qual scope L' f cdv))
        (fun fl s' => LeaveS0 ([envX cn cs L a ccd cl].filterMap (·.frame)) h₀ L m g R (match fl with | .ret v => v | _ => .none) s')
        (fun e s' => wpAny (model prog w) (A.deeper (envOf qual scope L' f cdv)) (leaving (envOf qual scope L' f cdv) e) (fun _ s'' => R (.error e) s'') (fun e' s'' => R (.error e') s'') s')
        { s with heap := h₁, toks := s.toks + binds.length })
    (hck : cs.kind = .function) (hco : scope.isCoroutine = false) (hgen : scope.isGenerator = false) (hk : scope.kind = .function)
    (hcell : ∀ x ∈ scope.names, x.2 ≠ .cell) : codeAny (model prog w) A (.call (.ref f) args) R s := by
  have X := X₀.keeps F.keep
  have nm : ∀ b o, h₀.get? b = some o → b ∉ news.map (·.1) := fun b o e q => by
    obtain ⟨p, hp, rfl⟩ := List.mem_map.mp q
    have n := (N p hp).2.2
    rw [e] at n
    cases n
  have st : h₀.StaysIn (hideAll s.heap (news.map (·.1))) := fun b o e => hideAll_get _ (F.keep b o e) (nm b o e)
  obtain ⟨oL, es, ep, hL, hLd, hLk, hLf⟩ := F.ns
  have nL : L ∉ news.map (·.1) := fun q => by
    obtain ⟨p, hp, e⟩ := List.mem_map.mp q
    exact (N p hp).2.1 e
  have hLg := hideAll_get (news.map (·.1)) hL nL
  have nL₀ : h₀.get? L = none := kts_self F
  have hns : ∀ (sl : Array (Option Value)) h', h'.get? L = some { oL with slots := sl } → Heap.Ns h' L m := fun sl h' e => ⟨_, es, ep, e, hLd, hLk, hLf⟩
  have Fg : Fr h₀ L (hideAll s.heap (news.map (·.1))) m := ⟨hns oL.slots _ hLg, st, F.above⟩
  have B₂ := belowX (name := cn) (a := a) (cd := ccd) (cl := cl) B Fg hck
  have B₃ : Below A base [envX cn cs L a ccd cl] (hideAll s.heap (news.map (·.1))) := ⟨hA, B₂.stays, B₂.frames⟩
  have only : ∀ b, b ∈ [envX cn cs L a ccd cl].filterMap (·.frame) → b = L := fun b hb => by
    rcases memX hb with z | z
    · exact z
    · simp at z
  refine codeAny_call_def (fd := fnOf name qual params body scope dV kV doc pm an cdv ct) (body := body) (binds := binds) hroom (X _ _ ho) rfl (T.nolimit.keeps F.keep) (codeRec_of X hcd) rfl hbind hcell hloc (fun h₁ hns₁ hk₁ => ?_) hco hgen hk
  refine wpAny_mono (h _ s.heap.objs.size h₁ Fg ⟨hns₁, fun b o e => hk₁ b o (of_hideAll _ e), Nat.le_of_eq (hideAll_size _ _)⟩
    (fun p hp => ⟨hk₁ _ _ (N p hp).1, Nat.ne_of_lt (Heap.lt_size (N p hp).1), hideAll_none _ (List.mem_map_of_mem hp)⟩) B₃ st (fun b hb => (only b hb) ▸ nL₀) (X₀.keeps st) (T.keeps st) (fun p hp => Heap.lt_size (N p hp).1)) (fun fl s' hl => ?_) fun _ _ y => y
  obtain ⟨g', L', m', news', T', F', N', k⟩ := hl
  obtain ⟨sl, hs⟩ := T'.up hLg
  refine k ⟨hns sl _ (F'.keep _ _ hs), fun b o e => F'.keep b o (T'.other b o (st b o e) (fun q => by
    rw [only b q, nL₀] at e
    cases e)), F.above⟩ fun p hp => ⟨(N' p hp).1, fun q => ?_, ?_⟩
  · have n := (N' p hp).2.2
    rw [q, hs] at n
    cases n
  · cases q : h₀.get? p.1 with
    | none => rfl
    | some o =>
      obtain ⟨sl', hs'⟩ := T'.up (st _ _ q)
      have n := (N' p hp).2.2
      rw [hs'] at n
      cases n
end
end Mine
end
section
namespace Mine

theorem news_told {h₀ h : Heap} {L r : Addr} {v : RV} {t t' : Tok} {rest news : List (Addr × Obj)} (N : News h₀ L h ((r, tup2 (.str (Str.ofString "told") t) (v.val t')) :: rest)) (hs : ∀ q ∈ news, q ∈ rest) : News h₀ L h ((r, resObj ⟨told, v⟩ t t') :: news) := news_top N hs
theorem news_code {h₀ h : Heap} {L r : Addr} {c : Int} {t t' : Tok} {rest news : List (Addr × Obj)} (N : News h₀ L h ((r, tup2 (.str (Str.ofString "code") t) (.int c t')) :: rest)) (hs : ∀ q ∈ news, q ∈ rest) : News h₀ L h ((r, resObj ⟨code, .i c⟩ t t') :: news) := news_top N hs
/-- a call of a lambda without arguments: what it hands back (Ok) and what it raises (Bad) -/
def Asks (w : World) (p : Program) (loose : List Str) (mean : ExcName → Option Value) (mg mb : Str → Option Value) (base : Heap) (lam : Addr) (news : List (Addr × Obj)) (Ok : RV → Prop) (Bad : Int → Prop) (dpm unm : Nat) : Prop :=
  ∀ {dp un : Nat} {gd : Option (List Code)} {cn : Str} {cs : Scope} {a : Addr} {ccd : Value} {cl : List (Str × Addr)} {outer : List Env} {A₀ : Around} {h₀ : Heap} {L : Addr} {m : Str → Option Value} {s : Shared} {Q E : Value → Shared → Prop},
    Below A₀ base outer h₀ → Fr h₀ L s.heap m → (Mine.hd.heap_1 w.params).In h₀ → News h₀ L s.heap news → Top p loose mean mg mb h₀ → cs.kind = .function → dp ≤ dpm → un ≤ unm →
    (∀ (c : Int) (e D : Addr) (x' : Str) (t0 t1 tk1 tk2 : Tok) (G h' : Heap) (tk' : Nat), Bad c → RaisedD base h₀ (envX cn cs L a ccd cl :: outer) e (.ref 63) D ((D, faultD w.params c x' t0 t1 tk1 tk2) :: news) h' → Fr h₀ L G m → G.UpToSlots h' → E (.ref e) { s with heap := h', toks := tk' }) →
    (∀ (v : RV) (t : Tok) (h' : Heap) (tk' : Nat), Ok v → Fr h₀ L h' m → News h₀ L h' news → Q (v.val t) { s with heap := h', toks := tk' }) →
    wpAny (model PySem.Challenge.rw_pf0120_01.row.prog w) (ktrTop dp un gd cn cs L a ccd cl outer) (call (.ref lam) []) Q E s
set_option maxRecDepth 100000 in
set_option maxHeartbeats 8000000 in
theorem heard_ct {w : World} {p : Program} {loose : List Str} {mean : ExcName → Option Value} {mg mb : Str → Option Value}
    {dp un : Nat} {gd : Option (List Code)} {cn : Str} {cs : Scope} {a : Addr} {ccd : Value} {cl : List (Str × Addr)} {A₀ : Around} {base h₀ : Heap} {L : Addr} {m : Str → Option Value} {s : Shared} {Q E : Value → Shared → Prop}
    {lam : Addr} {Ok : RV → Prop} {Bad : Int → Prop} {news : List (Addr × Obj)}
    (B : Below A₀ base [] h₀) (F : Fr h₀ L s.heap m) (X : (Mine.hd.heap_1 w.params).In h₀) (N : News h₀ L s.heap news) (T : Top p loose mean mg mb h₀) (hk : cs.kind = .function)
    (hfn : ∀ {h₀ h : Heap} {L : Addr}, News h₀ L h news → FnAt lam h) (hask : Asks w p loose mean mg mb base lam news Ok Bad (dp + 1) (un + 3)) (hdp : dp + 40 < recursionLimit) (hun : un ≤ 40)
    (hret : ∀ (r : Addr) (R : Res) (t t' : Tok) (h' : Heap) (tk' : Nat), (∀ v, R = ⟨told, v⟩ → Ok v) → (R.tag = told ∨ ∃ c, R = ⟨code, .i c⟩ ∧ Bad c) → Fr h₀ L h' m → News h₀ L h' ((r, resObj R t t') :: news) → (∀ q ∈ news, q.1 < r) → Q (.ref r) { s with heap := h', toks := tk' }) :
    wpAny (model PySem.Challenge.rw_pf0120_01.row.prog w) (ktrTop dp un gd cn cs L a ccd cl []) (call (.ref 246) [.ref lam]) Q E s := by
  revert X; k_fill; intro X
  refine wpAny_call ?_
  k_dflt (refine' code_defD0 ?k1 ?k2 ?k3 ?k4 ?k5 ?kA ?k6 ?k7 ?k8 ?k9 ?kB ?_ ?cK ?c2 ?c3 ?c4 ?c5; (case kA => exact rfl); (case k1 => k_asm); (case k2 => k_asm); (case k3 => k_asm); (case k4 => k_asm); (case k5 => k_asm); (case k6 => k_is); (case k7 => k_is); (case k8 => ktr_room); (case k9 => exact BindsTo.of_eq rfl); (case c5 => decide); (case kB => exact locs rfl); (case cK => assumption); (case c2 => exact rfl); (case c3 => exact rfl); (case c4 => exact rfl); k_whole; intro g' L' h' FG' F' N' B' st' out' X' T' l1; (try dsimp only); (try k_fold))
  repeat' ((fail_if_success (with_reducible show Q _ _)); (fail_if_success (with_reducible show wpAny _ _ (callWith _ _ _ _ _) _ _ _)); first | (k_unfold; (try dsimp only)) | (with_reducible refine stripQ ?_; k_unfold; (try dsimp only)) | (k_end; wrow_close) | walk1 | (dsimp only; walk1) | (leave1; walk_say "STEP leave1"; try dsimp only))
  k_dflt (refine' callWith_F0 ?fn ?_)
  case fn => exact hfn N'
  k_whole
  try dsimp only [List.nil_append, List.cons_append]
  repeat' ((fail_if_success (with_reducible show Q _ _)); (fail_if_success (with_reducible show wpAny _ _ (call (Value.ref _) _) _ _ _)); first | (k_unfold; (try dsimp only)) | (with_reducible refine stripQ ?_; k_unfold; (try dsimp only)) | (k_end; wrow_close) | walk1 | (dsimp only; walk1) | (leave1; walk_say "STEP leave1"; try dsimp only))
  k_dflt (refine' hask ?hB ?hF ?hX ?hN ?hT ?hk ?hd ?hu ?he ?hr)
  case hB => k_asm
  case hF => k_asm
  case hX => k_asm
  case hN => k_asm
  case hT => k_asm
  case hk => exact rfl
  case hd => (show dp + 1 ≤ dp + 1; omega)
  case hu => (show un + 3 ≤ un + 3; omega)
  case hr =>
    intro v t7 h7 tk7 hok F7 N7
    repeat' ((fail_if_success (with_reducible show Q _ _)); (fail_if_success (with_reducible show wpAny _ _ (call (Value.ref _) _) _ _ _)); first | (k_unfold; (try dsimp only)) | (with_reducible refine stripQ ?_; k_unfold; (try dsimp only)) | (k_end; wrow_close) | walk1 | (dsimp only; walk1) | (leave1; walk_say "STEP leave1"; try dsimp only))
    refine' hret _ ⟨told, v⟩ _ _ _ _ (fun v' e => by cases e; exact hok) (.inl rfl) (by with_reducible assumption) (news_told ?tn ?ts) ?tl
    case tn => with_reducible assumption
    case ts => (intro q hq; first | exact hq | simp [hq])
    case tl => (first | with_reducible assumption | ((rename (@LT.lt Nat _ _ _ ∧ _) => hz9); (repeat (first | exact allLt_mem hz9 | exact allLt_app hz9 | replace hz9 := hz9.2))))
  case he =>
    intro c e D x' u0 u1 u2 u3 G h9 tk9 hbad R9 G9 U9
    try dsimp only
    k_dflt (refine' caughtD R9 G9 U9 ?cB st' out' X T ?cx ?cq ?ck)
    case cB => exact B'
    case cx => k_is
    case cq => kts_isx
    case ck =>
      intro h8 g8 tk8 oe vs hc hdd hvs T8 F8 N8 B8 st8 X8 P8
      repeat' ((fail_if_success (with_reducible show Q _ _)); (fail_if_success (with_reducible show wpAny _ _ (getAttr _ _ _) _ _ _)); first | (k_unfold; (try dsimp only)) | (with_reducible refine stripQ ?_; k_unfold; (try dsimp only)) | (k_end; wrow_close) | walk1 | (dsimp only; walk1) | (leave1; walk_say "STEP leave1"; try dsimp only))
      k_dflt (refine get_code (X8.keeps F8.keep) (N8 _ (.head _)).1 hc hdd hvs (N8 _ (.tail _ (.head _))).1 ?_)
      repeat' ((fail_if_success (with_reducible show Q _ _)); (fail_if_success (with_reducible show wpAny _ _ (getAttr _ _ _) _ _ _)); first | (k_unfold; (try dsimp only)) | (with_reducible refine stripQ ?_; k_unfold; (try dsimp only)) | (k_end; wrow_close) | walk1 | (dsimp only; walk1) | (leave1; walk_say "STEP leave1"; try dsimp only))
      refine' hret _ ⟨code, .i c⟩ _ _ _ _ (fun v' e => absurd (show code = told from congrArg Res.tag e) (by decide)) (.inr ⟨c, rfl, hbad⟩) (by with_reducible assumption) (news_code ?cn ?cs) ?cl
      case cn => with_reducible assumption
      case cs => (intro q hq; first | exact hq | simp [hq])
      case cl => (first | with_reducible assumption | ((rename (@LT.lt Nat _ _ _ ∧ _) => hz9); (repeat (first | exact allLt_mem hz9 | exact allLt_app hz9 | replace hz9 := hz9.2))))

end Mine
end
section
namespace Mine
def SIGNS : List Nat := [48, 49, 50, 51, 52, 53, 54, 55, 56, 57, 32, 43, 45, 46, 84, 70, 116]
def Alpha (x : Str) : Prop := ∀ c ∈ x.cps.toList, c ∈ SIGNS
def LS : Str := Str.ofString "0123456789 +- .TFt"
theorem ls_item : ∀ i : Fin 18, ∃ c ∈ SIGNS, Txt.item LS ((i.1 : Nat) : Int) = ⟨#[c]⟩ := by
  intro i
  have h : ∀ i : Fin 18, (SIGNS.contains ((Txt.item LS ((i.1 : Nat) : Int)).cps.getD 0 0) && Txt.item LS ((i.1 : Nat) : Int) == ⟨#[(Txt.item LS ((i.1 : Nat) : Int)).cps.getD 0 0]⟩) = true := by decide +kernel
  have := h i
  rw [Bool.and_eq_true] at this
  exact ⟨_, by simpa using this.1, by simpa using this.2⟩
def OneSign (y : Str) : Prop := ∃ c ∈ SIGNS, y = ⟨#[c]⟩
theorem ls_one {r : Int} (h0 : 0 ≤ r) (h1 : r < 18) : OneSign (Txt.item LS r) := by
  obtain ⟨c, hc, e⟩ := ls_item ⟨r.toNat, by omega⟩
  have er : ((r.toNat : Nat) : Int) = r := by omega
  simp only [er] at e
  exact ⟨c, hc, e⟩
theorem sum_one : ∀ ws : List Str, (∀ y ∈ ws, OneSign y) → (ws.map (·.length)).sum = ws.length := by
  intro ws
  induction ws with
  | nil => intro _; rfl
  | cons y r ih =>
    intro h
    obtain ⟨c, _, rfl⟩ := h _ (.head _)
    rw [List.map_cons, List.sum_cons, ih fun z hz => h z (.tail _ hz), List.length_cons]
    show 1 + r.length = r.length + 1
    omega
theorem joins_one : ∀ ws : List Str, (∀ y ∈ ws, OneSign y) → Alpha (Str.join (Str.ofString "") ws) ∧ (Str.join (Str.ofString "") ws).length = ws.length := by
  intro ws
  induction ws with
  | nil => intro _; exact ⟨fun c hc => by simp [Str.join, Str.empty] at hc, rfl⟩
  | cons y r ih =>
    intro h
    obtain ⟨c, hc, rfl⟩ := h _ (.head _)
    have ih := ih fun z hz => h z (.tail _ hz)
    cases r with
    | nil =>
      refine ⟨fun d hd => ?_, rfl⟩
      have : d = c := by simpa [Str.join] using hd
      rw [this]; exact hc
    | cons y2 r2 =>
      have e : Str.join (Str.ofString "") (⟨#[c]⟩ :: y2 :: r2) = ⟨#[c]⟩ ++ Str.ofString "" ++ Str.join (Str.ofString "") (y2 :: r2) := rfl
      have ee : (Str.ofString "").cps = #[] := by decide
      rw [e]
      refine ⟨fun d hd => ?_, ?_⟩
      · rw [PySem.Str.cps_append, PySem.Str.cps_append, Array.toList_append, Array.toList_append, ee] at hd
        rcases List.mem_append.mp hd with hd | hd
        · have : d = c := by simpa using hd
          rw [this]; exact hc
        · exact ih.1 d hd
      · rw [PySem.Str.length_append, PySem.Str.length_append, ih.2]
        show 1 + (Str.ofString "").cps.size + (y2 :: r2).length = _
        rw [ee]
        simp [List.length_cons]; omega
theorem join_one (ws : List Str) (h : ∀ y ∈ ws, OneSign y) : Alpha (Txt.join (Str.ofString "") ws) ∧ (Txt.join (Str.ofString "") ws).length = ws.length := by
  have e : Txt.join (Str.ofString "") ws = Str.join (Str.ofString "") ws := StrLaws.glued_eq_join _ _
  rw [e]
  exact joins_one ws h
end Mine
end
section
namespace Mine
abbrev SL (l : List Nat) : Str := ⟨l.toArray⟩
theorem SL_cps (x : Str) : x = SL x.cps.toList := by cases x; simp [SL]
theorem SL_inj {a b : List Nat} (h : SL a = SL b) : a = b := by
  have := congrArg (fun x : Str => x.cps.toList) h
  simpa [SL] using this
theorem SL_len (l : List Nat) : (SL l).length = l.length := by show l.toArray.size = _; simp
theorem SL_one (c : Nat) : (⟨#[c]⟩ : Str) = SL [c] := rfl
theorem SL_app (a b : List Nat) : SL a ++ SL b = SL (a ++ b) := by
  have : (SL a ++ SL b).cps = (SL (a ++ b)).cps := by rw [PySem.Str.cps_append]; simp [SL]
  cases h : SL a ++ SL b; rw [h] at this; rw [← SL_cps ⟨_⟩] at *; simp_all [SL]
theorem sp_is : Str.ofString " " = SL [32] := by decide +kernel
theorem em_is : Str.ofString "" = SL [] := by decide +kernel
theorem SL_beq (a b : List Nat) : (SL a == SL b) = decide (a = b) := by
  by_cases h : a = b
  · subst h; simp
  · rw [decide_eq_false h]
    cases e : (SL a == SL b) with
    | false => rfl
    | true => exact absurd (SL_inj (beq_iff_eq.mp e)) h
theorem SL_item {l : List Nat} {k : Int} (h0 : 0 ≤ k) (h1 : k < (l.length : Int)) : Txt.item (SL l) k = SL [l.getD k.toNat 0] := by
  have hk : k.toNat < l.length := by omega
  refine PyProof.Rows.item_meets h0 ?_
  show l.toArray[k.toNat]? = _
  simp [hk]
theorem SL_from {l : List Nat} {i : Int} (h0 : 0 ≤ i) : Txt.slice (SL l) (some i) none = SL (l.drop i.toNat) := by
  by_cases h : i ≤ (l.length : Int)
  · rw [slice_from_eq (b := (l.length : Int)) h0 (by rw [SL_len]; exact h) (by rw [SL_len])]
    congr 2
    show List.take _ (List.drop i.toNat l.toArray.toList) = _
    rw [List.take_of_length_le]
    simp only [List.length_drop]; omega
  · rw [slice_beyond (by rw [SL_len]; omega), List.drop_of_length_le (by omega)]; rfl
theorem SL_at {l : List Nat} {i : Int} (h0 : 0 ≤ i) (h1 : i ≤ (l.length : Int)) : Txt.slice (SL l) (some i) (some (i + 1)) = SL ((l.drop i.toNat).take 1) := by
  by_cases h : i + 1 ≤ (l.length : Int)
  · rw [beq_iff_eq.mp (slice_closesL (x := SL l) h0 (by omega) (by rw [SL_len]; exact h))]
    have e : (i + 1 - i).toNat = 1 := by omega
    rw [e]
  · have e : i = (l.length : Int) := by omega
    have z : (Txt.slice (SL l) (some i) (some (i + 1))).length = 0 := by
      unfold Txt.slice
      have q : Builtin.Str.strSliceIndices (some i) (some (i + 1)) 1 (SL l).length = [] := by
        rw [SL_len]
        have a1 : ¬ i < 0 := by omega
        have a2 : ¬ i + 1 < 0 := by omega
        have a3 : (1 : Int) > 0 := by decide
        have a4 : min i (l.length : Int) = l.length := by omega
        have a5 : min (i + 1) (l.length : Int) = l.length := by omega
        have a6 : max (0 : Int) (l.length : Int) = l.length := by omega
        simp only [Builtin.Str.strSliceIndices, a1, a2, a3, if_false, if_true, a4, a5, a6, sliceRange, Int.lt_irrefl]
        rfl
      rw [q]
      split
      · rename_i w
        simp only [List.length_nil, Bool.and_eq_true, beq_iff_eq] at w
        exact w.2.symm
      · rfl
    rw [SL_cps (Txt.slice (SL l) (some i) (some (i + 1)))] at z ⊢
    rw [SL_len] at z
    rw [List.length_eq_zero_iff.mp z, List.drop_of_length_le (by omega)]
    rfl
theorem SL_to1 (l : List Nat) : Txt.slice (SL l) none (some 1) = SL (l.take 1) := by
  cases l with
  | nil =>
    have := PyProof.Txt.length_slice_le (SL []) none (some 1)
    rw [SL_cps (Txt.slice (SL []) none (some 1))] at this ⊢
    rw [SL_len, SL_len] at this
    rw [List.length_eq_zero_iff.mp (Nat.le_zero.mp this)]; rfl
  | cons c r =>
    rw [beq_iff_eq.mp (slice_closes_toL (x := SL (c :: r)) (by decide) (by rw [SL_len, List.length_cons]; omega))]
    rfl
theorem SL_codes (l : List Nat) : KStt.codes (SL l) = l.map fun (c : Nat) => (c : Int) := rfl
theorem alpha_mem {l : List Nat} (h : Alpha (SL l)) : ∀ c ∈ l, c ∈ SIGNS := fun c hc => h c (by simpa [SL] using hc)
theorem lstrip_is (l : List Nat) : Txt.lstripChars (SL l) (Str.ofString " ") = SL (l.dropWhile (· == 32)) := by
  have e : (Str.ofString " ").cps.contains = (· == 32) := by
    funext c
    rw [show (Str.ofString " ").cps = #[32] from by decide +kernel]
    by_cases h : c = 32
    · subst h; simp
    · have : ¬ (c == 32) = true := by simpa using h
      simp [h]
  unfold Txt.lstripChars
  rw [PyProof.Rows.stripBy_eq, e]
  unfold stripLo stripHi
  simp only [if_true, Bool.false_eq_true, if_false]
  unfold Builtin.Str.strSub
  show (⟨l.toArray.extract (l.takeWhile (· == 32)).length l.toArray.size⟩ : Str) = _
  congr 1
  have q : (l.takeWhile (· == 32)).length + (l.dropWhile (· == 32)).length = l.length := by
    rw [← List.length_append, List.takeWhile_append_dropWhile]
  have z : l.dropWhile (· == 32) = l.drop (l.takeWhile (· == 32)).length := by
    have := List.takeWhile_append_dropWhile (p := (· == 32)) (l := l)
    conv => rhs; arg 2; rw [← this]
    rw [List.drop_left]
  rw [z]
  simp [List.extract_toArray, List.take_of_length_le]
end Mine
end
section
namespace Mine

theorem len_of_first {x y : Str} (h : Txt.slice x none (some 1) = y) (hy : y.length = 1) : 1 ≤ x.length := by
  have := PyProof.Txt.length_slice_le x none (some 1)
  rw [h, hy] at this
  exact this
theorem len_of_any {x : Str} (h : ((([Str.ofString "T", Str.ofString "F"] : List Str)).any fun y => y == Txt.slice x none (some 1)) = true) : 1 ≤ x.length := by
  simp only [List.any_cons, List.any_nil, Bool.or_false, Bool.or_eq_true, beq_iff_eq] at h
  rcases h with h | h
  · exact len_of_first h.symm (by decide)
  · exact len_of_first h.symm (by decide)
theorem item_any {prog : Program} {w : World} {A : Around} {E : Value → Shared → Prop} {s : Shared} {value slice : PySem.Expr} {x : PySem.Str} {t u : Tok} {Q : Value → Shared → Prop}
    (h0 : 1 ≤ x.length) (hx : x.length ≤ 1000) (h : Q (.str (Txt.item x 0) s.toks) { s with toks := s.toks + 1 })
    (hs : subscripted slice false (.str x t) (.int 0 u) = operate [.str x t, .int 0 u] (getItem (.str x t) (.int 0 u)) := by with_unfolding_all rfl)
    (ht : ∀ r, letTemporaryGo value (.str x t) r = pure () := by intro _; with_unfolding_all rfl) :
    wpAny (model prog w) A (subscriptTail value slice (.str x t) (.int 0 u)) Q E s :=
  KXi.item rfl (by omega) (by omega) (by omega) (fun _ => h) hs ht
def truthR (x : Str) : Str := if (Txt.slice (Txt.lstripChars x (Str.ofString " ")) none (some 1) == Str.ofString ".") = true then Txt.slice (Txt.lstripChars x (Str.ofString " ")) (some 1) none else Txt.lstripChars x (Str.ofString " ")
def lawTruth (x : Str) : Res := if ((([Str.ofString "T", Str.ofString "F"] : List Str)).any fun y => y == Txt.slice (truthR x) none (some 1)) = true then ⟨told, .b (Txt.item (truthR x) 0 == Str.ofString "T")⟩ else ⟨code, .i 1⟩
local macro_rules | `(tactic| walk_at "ite") => `(tactic| ((with_reducible show (if List.any _ _ = true then _ else _)); (refine ite_split (fun ha => ?_) (fun ha => ?_))))
local macro_rules | `(tactic| walk_at "subscriptTail Name Constant str int") => `(tactic| ((with_reducible show wpAny _ _ (subscriptTail _ _ (Value.str _ _) (Value.int 0 _)) _ _ _); (refine item_any (len_of_any (by with_reducible assumption)) (by omega) ?_)))

theorem tr_dot {x : Str} (h : (Txt.slice (Txt.lstripChars x (Str.ofString " ")) none (some 1) == Str.ofString ".") = true) : truthR x = Txt.slice (Txt.lstripChars x (Str.ofString " ")) (some 1) none := by unfold truthR; rw [if_pos h]
theorem tr_no {x : Str} (h : (Txt.slice (Txt.lstripChars x (Str.ofString " ")) none (some 1) == Str.ofString ".") = false) : truthR x = Txt.lstripChars x (Str.ofString " ") := by unfold truthR; rw [if_neg (by rw [h]; decide)]
theorem lt_told {x r : Str} (e : truthR x = r) (h : ((([Str.ofString "T", Str.ofString "F"] : List Str)).any fun y => y == Txt.slice r none (some 1)) = true) : lawTruth x = ⟨told, .b (Txt.item r 0 == Str.ofString "T")⟩ := by unfold lawTruth; rw [e, if_pos h]
theorem lt_code {x r : Str} (e : truthR x = r) (h : ((([Str.ofString "T", Str.ofString "F"] : List Str)).any fun y => y == Txt.slice r none (some 1)) = false) : lawTruth x = ⟨code, .i 1⟩ := by unfold lawTruth; rw [e, if_neg (by rw [h]; decide)]
set_option maxRecDepth 100000 in
set_option maxHeartbeats 8000000 in
theorem ltruth_ct {w : World} {p : Program} {loose : List Str} {mean : ExcName → Option Value} {mg mb : Str → Option Value}
    {dp un : Nat} {gd : Option (List Code)} {cn : Str} {cs : Scope} {a : Addr} {ccd : Value} {cl : List (Str × Addr)} {outer : List Env} {A₀ : Around} {base h₀ : Heap} {L : Addr} {m : Str → Option Value} {s : Shared} {Q E : Value → Shared → Prop}
    {x : Str} {t0 : Tok} {news : List (Addr × Obj)}
    (B : Below A₀ base outer h₀) (F : Fr h₀ L s.heap m) (X : (Mine.hd.heap_1 w.params).In h₀) (N : News h₀ L s.heap news) (T : Top p loose mean mg mb h₀) (hk : cs.kind = .function)
    (hx : x.length ≤ 100) (hdp : dp + 10 < recursionLimit) (hun : un ≤ 200)
    (hret : ∀ (r : Addr) (t t' : Tok) (h' : Heap) (tk' : Nat), Fr h₀ L h' m → News h₀ L h' ((r, resObj (lawTruth x) t t') :: news) → (∀ q ∈ news, q.1 < r) → Q (.ref r) { s with heap := h', toks := tk' }) :
    wpAny (model PySem.Challenge.rw_pf0120_01.row.prog w) (ktrTop dp un gd cn cs L a ccd cl outer) (call (.ref 232) [.str x t0]) Q E s := by
  revert X; k_fill; intro X
  refine wpAny_call ?_
  k_dflt cell_enter
  repeat' ((fail_if_success (with_reducible show Q _ _)); first | (k_unfold; (try dsimp only)) | (with_reducible refine stripQ ?_; k_unfold; (try dsimp only)) | (k_end; wrow_close) | walk1 | (dsimp only; walk1) | (leave1; walk_say "STEP leave1"; try dsimp only))
  · (refine' hret _ _ _ _ _ ?zf (res_b ?ze (news_top ?zn ?zs)) ?zo; (case zn => with_reducible assumption); (case zf => with_reducible assumption); (case ze => exact lt_told (tr_dot (by with_reducible assumption)) (by with_reducible assumption)); (case zs => (intro q hq; (first | exact hq | (simp only [List.mem_cons, List.mem_append]; simp [hq])))); (case zo => (first | with_reducible assumption | ((rename (@LT.lt Nat _ _ _ ∧ _) => hz9); (repeat (first | exact allLt_mem hz9 | exact allLt_app hz9 | replace hz9 := hz9.2))))))
  · (refine' hret _ _ _ _ _ ?zf (res_i ?ze (news_top ?zn ?zs)) ?zo; (case zn => with_reducible assumption); (case zf => with_reducible assumption); (case ze => exact lt_code (tr_dot (by with_reducible assumption)) (by with_reducible assumption)); (case zs => (intro q hq; (first | exact hq | (simp only [List.mem_cons, List.mem_append]; simp [hq])))); (case zo => (first | with_reducible assumption | ((rename (@LT.lt Nat _ _ _ ∧ _) => hz9); (repeat (first | exact allLt_mem hz9 | exact allLt_app hz9 | replace hz9 := hz9.2))))))
  · (refine' hret _ _ _ _ _ ?zf (res_b ?ze (news_top ?zn ?zs)) ?zo; (case zn => with_reducible assumption); (case zf => with_reducible assumption); (case ze => exact lt_told (tr_no (by with_reducible assumption)) (by with_reducible assumption)); (case zs => (intro q hq; (first | exact hq | (simp only [List.mem_cons, List.mem_append]; simp [hq])))); (case zo => (first | with_reducible assumption | ((rename (@LT.lt Nat _ _ _ ∧ _) => hz9); (repeat (first | exact allLt_mem hz9 | exact allLt_app hz9 | replace hz9 := hz9.2))))))
  · (refine' hret _ _ _ _ _ ?zf (res_i ?ze (news_top ?zn ?zs)) ?zo; (case zn => with_reducible assumption); (case zf => with_reducible assumption); (case ze => exact lt_code (tr_no (by with_reducible assumption)) (by with_reducible assumption)); (case zs => (intro q hq; (first | exact hq | (simp only [List.mem_cons, List.mem_append]; simp [hq])))); (case zo => (first | with_reducible assumption | ((rename (@LT.lt Nat _ _ _ ∧ _) => hz9); (repeat (first | exact allLt_mem hz9 | exact allLt_app hz9 | replace hz9 := hz9.2))))))
end Mine
end
section
namespace Mine
def Out.res : Out → Res
  | .ok v => ⟨told, v⟩
  | .bad c => ⟨code, .i c⟩
theorem drop_while_at : ∀ (l : List Nat) (n : Nat), n ≤ l.length → (∀ j, j < n → l.getD j 0 = 32) → (n < l.length → l.getD n 0 ≠ 32) → l.dropWhile (· == 32) = l.drop n := by
  intro l
  induction l with
  | nil => intro n hn _ _; simp
  | cons c r ih =>
    intro n hn h1 h2
    cases n with
    | zero =>
      have : c ≠ 32 := by simpa using h2 (by simp)
      simp [this]
    | succ n =>
      have e : c = 32 := by simpa using h1 0 (by omega)
      subst e
      rw [List.drop_succ_cons, List.dropWhile_cons_of_pos (by rfl)]
      refine ih n (by simpa using hn) (fun j hj => by simpa using h1 (j + 1) (by omega)) (fun hn => by simpa using h2 (by simpa using hn))
theorem lead_drop {l : List Nat} {i : Int} (h : LeadAt (SL l) i) : l.dropWhile (· == 32) = l.drop i.toNat ∧ 0 ≤ i ∧ i ≤ (l.length : Int) := by
  obtain ⟨h0, h1, h2, h3⟩ := h
  rw [SL_len] at h1 h3
  refine ⟨drop_while_at l i.toNat (by omega) (fun j hj => ?_) (fun hn => ?_), h0, h1⟩
  · have := h2 (j : Int) (by omega) (by omega)
    rw [SL_item (by omega) (by omega), sp_is, SL_beq, decide_eq_true_iff] at this
    simpa using this
  · have := h3 (by omega)
    rw [SL_item (by omega) (by omega), sp_is, SL_beq, decide_eq_false_iff_not] at this
    simpa using this
theorem t_is : Str.ofString "T" = SL [84] := by decide +kernel
theorem f_is : Str.ofString "F" = SL [70] := by decide +kernel
theorem dot_is : Str.ofString "." = SL [46] := by decide +kernel
def dotOff (r : List Nat) : List Nat := if r.take 1 = [46] then r.drop 1 else r
theorem truthR_is (l : List Nat) : truthR (SL l) = SL (dotOff (l.dropWhile (· == 32))) := by
  unfold truthR dotOff
  rw [lstrip_is, SL_to1, dot_is, SL_beq]
  simp only [decide_eq_true_eq]
  split
  · rw [SL_from (by decide)]; rfl
  · rfl
theorem logAt_is {l : List Nat} {i : Int} (h0 : 0 ≤ i) (h1 : i ≤ (l.length : Int)) : l.drop (logAt (SL l) i).toNat = dotOff (l.drop i.toNat) ∧ 0 ≤ logAt (SL l) i ∧ logAt (SL l) i ≤ (l.length : Int) := by
  unfold logAt dotOff
  rw [SL_at h0 h1, dot_is, SL_beq]
  simp only [decide_eq_true_eq]
  split
  · rename_i h
    have hl : i < (l.length : Int) := by
      have := congrArg List.length h
      simp only [List.length_take, List.length_drop, List.length_cons, List.length_nil] at this
      omega
    refine ⟨?_, by omega, by omega⟩
    rw [List.drop_drop, show (i + 1).toNat = i.toNat + 1 from by omega]
  · exact ⟨rfl, h0, h1⟩
theorem truth_plain {x : Str} {i : Int} (h : LeadAt x i) : lawTruth x = (readLogS x i).res := by
  rw [SL_cps x] at h ⊢
  generalize x.cps.toList = l at h ⊢
  obtain ⟨e, h0, h1⟩ := lead_drop h
  obtain ⟨e2, h2, h3⟩ := logAt_is h0 h1
  unfold lawTruth readLogS
  rw [truthR_is, SL_at h2 h3, e2, e, SL_to1, t_is, f_is]
  simp only [List.any_cons, List.any_nil, Bool.or_false, SL_beq]
  generalize dotOff (List.drop i.toNat l) = r
  cases r with
  | nil => rfl
  | cons c r =>
    rw [SL_item (by decide) (by simp), SL_beq]
    simp only [List.take_succ_cons, List.take_zero, List.cons.injEq, and_true, Int.toNat_zero, List.getD_cons_zero]
    by_cases a : c = 84
    · subst a; rfl
    · by_cases b : c = 70
      · subst b; rfl
      · have a' : ¬ 84 = c := fun q => a q.symm
        have b' : ¬ 70 = c := fun q => b q.symm
        simp only [a, b, a', b', decide_false, Bool.or_false, Bool.false_eq_true, if_false]
        rfl
theorem ltext_step {l : List Nat} {n : Int} (hn : 0 ≤ n) : ∀ j : Nat, (j : Int) ≤ n → ltextS (SL l) n (rangeKs 0 j) = SL (((l.drop ((l.length : Int) - n).toNat ++ List.replicate (n - l.length).toNat 32)).take j) := by
  intro j
  induction j with
  | zero => intro _; rfl
  | succ j ih =>
    intro hj
    have ex : rangeKs 0 (j + 1) = rangeKs 0 j ++ [(j : Int)] := by
      unfold rangeKs; rw [List.range_succ, List.map_append]; simp
    rw [ex, lx_snoc, ih (by omega)]
    unfold ltextT atT
    rw [SL_len]
    by_cases hp : (l.length : Int) - n > 0
    · rw [if_pos hp]
      have hc : (j : Int) + ((l.length : Int) - n) < (l.length : Int) := by omega
      rw [if_pos hc, SL_item (by omega) hc, SL_app]
      congr 1
      congr 1
      have e2 : (n - (l.length : Int)).toNat = 0 := by omega
      rw [e2, List.replicate_zero, List.append_nil]
      rw [List.take_add_one]
      congr 1
      rw [List.getElem?_drop]
      have e3 : ((j : Int) + ((l.length : Int) - n)).toNat = ((l.length : Int) - n).toNat + j := by omega
      rw [e3]
      have hlt : ((l.length : Int) - n).toNat + j < l.length := by omega
      simp [hlt]
    · rw [if_neg hp]
      have e2 : ((l.length : Int) - n).toNat = 0 := by omega
      rw [e2, List.drop_zero, List.take_add_one]
      by_cases hc : (j : Int) + 0 < (l.length : Int)
      · rw [if_pos hc, SL_item (by omega) hc, SL_app]
        congr 1
        congr 1
        have hlt : j < l.length := by omega
        rw [List.getElem?_append_left hlt]
        simp [hlt]
      · rw [if_neg hc, sp_is, SL_app]
        congr 1
        congr 1
        rw [List.getElem?_append_right (by omega)]
        rw [List.getElem?_replicate]
        rw [if_pos (by omega)]
        rfl
theorem mul_is {n : Int} (h : 1 ≤ n) : Txt.mul (Str.ofString " ") n = SL (List.replicate n.toNat 32) := by
  unfold Txt.mul
  rw [if_neg (by omega), sp_is]
  have key : ∀ (k : Nat) (a : Array Nat), (List.replicate k (SL [32]).cps).foldl (· ++ ·) a = a ++ (List.replicate k 32).toArray := by
    intro k
    induction k with
    | zero => intro a; simp
    | succ k ih =>
      intro a
      rw [List.replicate_succ, List.foldl_cons, ih, List.replicate_succ]
      show (a ++ #[32]) ++ _ = _
      rw [Array.append_assoc]
      congr 1
      apply Array.ext'
      simp
  split
  · rename_i w
    have e1 : n = 1 := by
      rw [Bool.or_eq_true] at w
      rcases w with w | w
      · simpa using w
      · exact absurd w (by decide)
    subst e1; rfl
  · rw [key]; simp [SL]
theorem text_plain {x : Str} {n : Int} (hn : 0 ≤ n) : lawText x n = ⟨told, .s (rtextS x n)⟩ := by
  rw [SL_cps x]
  generalize x.cps.toList = l
  unfold lawText
  rw [show (n - 0).toNat = n.toNat from by rw [Int.sub_zero], ltext_step hn n.toNat (by omega)]
  unfold rtextS
  rw [SL_len]
  congr 2
  by_cases h : n ≤ (l.length : Int)
  · rw [if_pos h, SL_from (by omega)]
    congr 1
    rw [show (n - (l.length : Int)).toNat = 0 from by omega, List.replicate_zero, List.append_nil, List.take_of_length_le]
    rw [List.length_drop]; omega
  · rw [if_neg h, mul_is (by omega), SL_app]
    congr 1
    rw [show ((l.length : Int) - n).toNat = 0 from by omega, List.drop_zero, List.take_of_length_le]
    rw [List.length_append, List.length_replicate]; omega
end Mine
end
section
namespace Mine

local macro_rules | `(tactic| walk_at "eval Name") => `(tactic| (k_here; k_dflt (refine' nameX_F ?N ?c ?m ?d ?_ ?a ?b; (case c => exact rfl); (case a => exact rfl); (case b => exact rfl); (case N => k_asm); (case m => ktr_member); (case d => assumption))))

theorem res_ok {R : Res} {o : Out} {v : RV} (hR : R = o.res) (e : o = .ok v) : R = ⟨told, v⟩ := by rw [hR, e]; rfl
theorem res_bad {R : Res} {o : Out} {c : Int} (hR : R = o.res) (e : o = .bad c) : R = ⟨code, .i c⟩ := by rw [hR, e]; rfl
theorem heard_is {R R' : Res} (h1 : ∀ v, R' = ⟨told, v⟩ → R = ⟨told, v⟩) (h2 : R'.tag = told ∨ ∃ c, R' = ⟨code, .i c⟩ ∧ R = ⟨code, .i c⟩) : R' = R := by
  rcases h2 with h | ⟨c, e1, e2⟩
  · obtain ⟨g, v⟩ := R'
    cases h
    exact (h1 v rfl).symm
  · rw [e1, e2]
set_option maxRecDepth 100000 in
set_option maxHeartbeats 8000000 in
theorem ask_int {w : World} {p : Program} {loose : List Str} {mean : ExcName → Option Value} {mg mb : Str → Option Value} {base : Heap} {lam c' a_card a_is_filled a_width : Addr} {oc o_card o_is_filled o_width : Obj} {vs : Array Value} {news : List (Addr × Obj)}
    {nm qual : Str} {t : Tok} {pm ctv : Value} {p0 p1 p2 p3 p4 : Pos} {dpm unm : Nat} {x : Str} {z : Bool} {n : Int} {t0 t1 : Tok} {R : Res}
    (hlam : (lam, kla_obj nm qual { posonlyargs := [], args := [], vararg := none, kwonlyargs := [], kw_defaults := [], kwarg := none, defaults := [] } (.Call (.Name (Str.ofString "read_int") p0) [.Name (Str.ofString "card") p1, .Name (Str.ofString "is_filled") p2, .Name (Str.ofString "width") p3] [] p4) { kind := .function, names := [((Str.ofString "card"), .free), ((Str.ofString "is_filled"), .free), ((Str.ofString "width"), .free), ((Str.ofString "read_int"), .globalImplicit)], isGenerator := false, isCoroutine := false } [((Str.ofString "width"), a_width), ((Str.ofString "is_filled"), a_is_filled), ((Str.ofString "card"), a_card)] pm c' ctv) ∈ news) (hcode : (c', oc) ∈ news) (hcd : oc.data = .fields vs) (hcv : vs[1]? = some (.str qual t))
    (h_card : (a_card, o_card) ∈ news) (d_card : o_card.data = .cell (some (.str x t0))) (h_is_filled : (a_is_filled, o_is_filled) ∈ news) (d_is_filled : o_is_filled.data = .cell (some (.bool z))) (h_width : (a_width, o_width) ∈ news) (d_width : o_width.data = .cell (some (.int n t1))) (hx : x.length ≤ 9) (hn0 : 4 ≤ n) (hn1 : n ≤ 12) (hR : R = (readIntS x z n).res) (hdpm : dpm + 26 < recursionLimit) (hunm : unm ≤ 70) :
    Asks w p loose mean mg mb base lam news (fun v => R = ⟨told, v⟩) (fun c => R = ⟨code, .i c⟩) dpm unm := by
  intro dp un gd cn cs a ccd cl outer A₀ h₀ L m s Q E B F X N T hk hdp hun hraise hret
  revert X; k_fill; intro X
  refine wpAny_call ?_
  k_dflt (refine' kla_code ?k1 ?k2 ?k3 ?k4 ?k5 ?kA ?kF ?kK ?k6 ?k7 ?k8 ?k9 ?kB ?_ ?c2 ?c3 ?c4 ?c5; (case kA => exact rfl); (case kF => exact rfl); (case kK => assumption); (case k1 => k_asm); (case k2 => k_asm); (case k3 => k_asm); (case k4 => k_asm); (case k5 => k_asm); (case k6 => exact hlam); (case k7 => exact codeRec_news (by k_asm) hcode hcd hcv); (case k8 => ktr_room); (case k9 => exact rfl); (case c5 => decide); (case kB => exact locs rfl); (case c2 => exact rfl); (case c3 => exact rfl); (case c4 => exact rfl); k_whole; intro g' L' h' FG' F' N' B' X' T'; (try dsimp only); (try k_lift B'); (try k_fold))
  repeat' ((fail_if_success (with_reducible show Q _ _)); (fail_if_success (with_reducible show wpAny _ _ (call (Value.ref _) _) _ _ _)); first | (k_unfold; (try dsimp only)) | (with_reducible refine stripQ ?_; k_unfold; (try dsimp only)) | (k_end; wrow_close) | walk1 | (dsimp only; walk1) | (leave1; walk_say "STEP leave1"; try dsimp only))
  k_dflt (refine' readint_ct ?ybx1 ?yfx1 ?yxx1 ?ynx1 ?ytx1 ?ykx1 (Nat.le_trans hx (by decide)) hn0 hn1 ?ydx1 ?yux1 ?yex1 ?yrx1)
  case ybx1 => k_asm
  case yfx1 => k_asm
  case yxx1 => k_asm
  case ynx1 => k_asm
  case ytx1 => k_asm
  case ykx1 => exact rfl
  case ydx1 => (show dp + 1 + 20 < _; omega)
  case yux1 => (show un + 3 ≤ 100; omega)
  case yex1 =>
    intro c e D x' u0 u1 u2 u3 G h9 tk9 hbad R9 G9 U9
    exact leave_onD1 B' G9 R9 fun h10 R10 U10 => hraise _ _ _ _ _ _ _ _ _ _ _ (res_bad hR hbad) (R10.down FG'.keep) FG' ((Heap.UpToSlots.of_keeps G9.keep).trans (U9.trans U10))
  intro v t7 h7 tk7 hok F7 N7
  repeat' ((fail_if_success (with_reducible show Q _ _)); (fail_if_success (with_reducible show wpAny _ _ (call (Value.ref _) _) _ _ _)); first | (k_unfold; (try dsimp only)) | (with_reducible refine stripQ ?_; k_unfold; (try dsimp only)) | (k_end; wrow_close) | walk1 | (dsimp only; walk1) | (leave1; walk_say "STEP leave1"; try dsimp only))
  exact hret (.i v) _ _ _ (res_ok hR hok) (by with_reducible assumption) (by with_reducible assumption)
set_option maxRecDepth 100000 in
set_option maxHeartbeats 8000000 in
theorem ask_log {w : World} {p : Program} {loose : List Str} {mean : ExcName → Option Value} {mg mb : Str → Option Value} {base : Heap} {lam c' a_card : Addr} {oc o_card : Obj} {vs : Array Value} {news : List (Addr × Obj)}
    {nm qual : Str} {t : Tok} {pm ctv : Value} {p0 p1 p2 : Pos} {dpm unm : Nat} {x : Str} {t0 : Tok} {R : Res}
    (hlam : (lam, kla_obj nm qual { posonlyargs := [], args := [], vararg := none, kwonlyargs := [], kw_defaults := [], kwarg := none, defaults := [] } (.Call (.Name (Str.ofString "read_logical") p0) [.Name (Str.ofString "card") p1] [] p2) { kind := .function, names := [((Str.ofString "card"), .free), ((Str.ofString "read_logical"), .globalImplicit)], isGenerator := false, isCoroutine := false } [((Str.ofString "card"), a_card)] pm c' ctv) ∈ news) (hcode : (c', oc) ∈ news) (hcd : oc.data = .fields vs) (hcv : vs[1]? = some (.str qual t))
    (h_card : (a_card, o_card) ∈ news) (d_card : o_card.data = .cell (some (.str x t0))) (hx : x.length ≤ 9) (hR : ∀ i, LeadAt x i → R = (readLogS x i).res) (hdpm : dpm + 26 < recursionLimit) (hunm : unm ≤ 70) :
    Asks w p loose mean mg mb base lam news (fun v => R = ⟨told, v⟩) (fun c => R = ⟨code, .i c⟩) dpm unm := by
  intro dp un gd cn cs a ccd cl outer A₀ h₀ L m s Q E B F X N T hk hdp hun hraise hret
  revert X; k_fill; intro X
  refine wpAny_call ?_
  k_dflt (refine' kla_code ?k1 ?k2 ?k3 ?k4 ?k5 ?kA ?kF ?kK ?k6 ?k7 ?k8 ?k9 ?kB ?_ ?c2 ?c3 ?c4 ?c5; (case kA => exact rfl); (case kF => exact rfl); (case kK => assumption); (case k1 => k_asm); (case k2 => k_asm); (case k3 => k_asm); (case k4 => k_asm); (case k5 => k_asm); (case k6 => exact hlam); (case k7 => exact codeRec_news (by k_asm) hcode hcd hcv); (case k8 => ktr_room); (case k9 => exact rfl); (case c5 => decide); (case kB => exact locs rfl); (case c2 => exact rfl); (case c3 => exact rfl); (case c4 => exact rfl); k_whole; intro g' L' h' FG' F' N' B' X' T'; (try dsimp only); (try k_lift B'); (try k_fold))
  repeat' ((fail_if_success (with_reducible show Q _ _)); (fail_if_success (with_reducible show wpAny _ _ (call (Value.ref _) _) _ _ _)); first | (k_unfold; (try dsimp only)) | (with_reducible refine stripQ ?_; k_unfold; (try dsimp only)) | (k_end; wrow_close) | walk1 | (dsimp only; walk1) | (leave1; walk_say "STEP leave1"; try dsimp only))
  k_dflt (refine' readlog_ct ?ybx2 ?yfx2 ?yxx2 ?ynx2 ?ytx2 ?ykx2 (Nat.le_trans hx (by decide)) ?ydx2 ?yux2 ?yex2 ?yrx2)
  case ybx2 => k_asm
  case yfx2 => k_asm
  case yxx2 => k_asm
  case ynx2 => k_asm
  case ytx2 => k_asm
  case ykx2 => exact rfl
  case ydx2 => (show dp + 1 + 20 < _; omega)
  case yux2 => (show un + 3 ≤ 100; omega)
  case yex2 =>
    intro i c e D x' u0 u1 u2 u3 G h9 tk9 hla hbad R9 G9 U9
    exact leave_onD1 B' G9 R9 fun h10 R10 U10 => hraise _ _ _ _ _ _ _ _ _ _ _ (res_bad (hR i hla) hbad) (R10.down FG'.keep) FG' ((Heap.UpToSlots.of_keeps G9.keep).trans (U9.trans U10))
  intro i v h7 tk7 hla hok F7 N7
  repeat' ((fail_if_success (with_reducible show Q _ _)); (fail_if_success (with_reducible show wpAny _ _ (call (Value.ref _) _) _ _ _)); first | (k_unfold; (try dsimp only)) | (with_reducible refine stripQ ?_; k_unfold; (try dsimp only)) | (k_end; wrow_close) | walk1 | (dsimp only; walk1) | (leave1; walk_say "STEP leave1"; try dsimp only))
  exact hret (.b v) 0 _ _ (res_ok (hR i hla) hok) (by with_reducible assumption) (by with_reducible assumption)
set_option maxRecDepth 100000 in
set_option maxHeartbeats 8000000 in
theorem ask_text {w : World} {p : Program} {loose : List Str} {mean : ExcName → Option Value} {mg mb : Str → Option Value} {base : Heap} {lam c' a_card a_length : Addr} {oc o_card o_length : Obj} {vs : Array Value} {news : List (Addr × Obj)}
    {nm qual : Str} {t : Tok} {pm ctv : Value} {p0 p1 p2 p3 : Pos} {dpm unm : Nat} {x : Str} {n : Int} {t0 t1 : Tok} {R : Res}
    (hlam : (lam, kla_obj nm qual { posonlyargs := [], args := [], vararg := none, kwonlyargs := [], kw_defaults := [], kwarg := none, defaults := [] } (.Call (.Name (Str.ofString "read_text") p0) [.Name (Str.ofString "card") p1, .Name (Str.ofString "length") p2] [] p3) { kind := .function, names := [((Str.ofString "card"), .free), ((Str.ofString "length"), .free), ((Str.ofString "read_text"), .globalImplicit)], isGenerator := false, isCoroutine := false } [((Str.ofString "length"), a_length), ((Str.ofString "card"), a_card)] pm c' ctv) ∈ news) (hcode : (c', oc) ∈ news) (hcd : oc.data = .fields vs) (hcv : vs[1]? = some (.str qual t))
    (h_card : (a_card, o_card) ∈ news) (d_card : o_card.data = .cell (some (.str x t0))) (h_length : (a_length, o_length) ∈ news) (d_length : o_length.data = .cell (some (.int n t1))) (hx : x.length ≤ 9) (hn0 : 0 ≤ n) (hn1 : n ≤ 12) (hR : R = ⟨told, .s (rtextS x n)⟩) (hdpm : dpm + 26 < recursionLimit) (hunm : unm ≤ 70) :
    Asks w p loose mean mg mb base lam news (fun v => R = ⟨told, v⟩) (fun c => R = ⟨code, .i c⟩) dpm unm := by
  intro dp un gd cn cs a ccd cl outer A₀ h₀ L m s Q E B F X N T hk hdp hun hraise hret
  revert X; k_fill; intro X
  refine wpAny_call ?_
  k_dflt (refine' kla_code ?k1 ?k2 ?k3 ?k4 ?k5 ?kA ?kF ?kK ?k6 ?k7 ?k8 ?k9 ?kB ?_ ?c2 ?c3 ?c4 ?c5; (case kA => exact rfl); (case kF => exact rfl); (case kK => assumption); (case k1 => k_asm); (case k2 => k_asm); (case k3 => k_asm); (case k4 => k_asm); (case k5 => k_asm); (case k6 => exact hlam); (case k7 => exact codeRec_news (by k_asm) hcode hcd hcv); (case k8 => ktr_room); (case k9 => exact rfl); (case c5 => decide); (case kB => exact locs rfl); (case c2 => exact rfl); (case c3 => exact rfl); (case c4 => exact rfl); k_whole; intro g' L' h' FG' F' N' B' X' T'; (try dsimp only); (try k_lift B'); (try k_fold))
  repeat' ((fail_if_success (with_reducible show Q _ _)); (fail_if_success (with_reducible show wpAny _ _ (call (Value.ref _) _) _ _ _)); first | (k_unfold; (try dsimp only)) | (with_reducible refine stripQ ?_; k_unfold; (try dsimp only)) | (k_end; wrow_close) | walk1 | (dsimp only; walk1) | (leave1; walk_say "STEP leave1"; try dsimp only))
  k_dflt (refine' rtext_ct ?ybx3 ?yfx3 ?yxx3 ?ynx3 ?ytx3 ?ykx3 (Nat.le_trans hx (by decide)) hn0 (Int.le_trans hn1 (by decide)) ?ydx3 ?yux3 ?yrx3)
  case ybx3 => k_asm
  case yfx3 => k_asm
  case yxx3 => k_asm
  case ynx3 => k_asm
  case ytx3 => k_asm
  case ykx3 => exact rfl
  case ydx3 => (show dp + 1 + 10 < _; omega)
  case yux3 => (show un + 3 ≤ 200; omega)
  intro t7 h7 tk7 F7 N7
  repeat' ((fail_if_success (with_reducible show Q _ _)); (fail_if_success (with_reducible show wpAny _ _ (call (Value.ref _) _) _ _ _)); first | (k_unfold; (try dsimp only)) | (with_reducible refine stripQ ?_; k_unfold; (try dsimp only)) | (k_end; wrow_close) | walk1 | (dsimp only; walk1) | (leave1; walk_say "STEP leave1"; try dsimp only))
  exact hret (.s (rtextS x n)) _ _ _ hR (by with_reducible assumption) (by with_reducible assumption)
set_option maxRecDepth 100000 in
set_option maxHeartbeats 8000000 in
theorem ask_valI {w : World} {p : Program} {loose : List Str} {mean : ExcName → Option Value} {mg mb : Str → Option Value} {base : Heap} {lam c' a_card a_is_filled a_item a_kind a_length a_limits : Addr} {oc o_card o_is_filled o_item o_kind o_length o_limits : Obj} {vs : Array Value} {news : List (Addr × Obj)}
    {nm qual : Str} {t : Tok} {pm ctv : Value} {p0 p1 p2 p3 p4 p5 p6 p7 p8 : Pos} {dpm unm : Nat} {x : Str} {z : Bool} {n : Int} {it lim : Addr} {t0 tk tn : Tok} {R : Res} {t1 t2 k0 k1 k2 k3 k4 k5 k6 k7 u0 u1 u2 u3 u4 u5 u6 u7 : Tok} {width : Int} {dx : Addr}
    (hlam : (lam, kla_obj nm qual { posonlyargs := [], args := [], vararg := none, kwonlyargs := [], kw_defaults := [], kwarg := none, defaults := [] } (.Call (.Name (Str.ofString "read_value") p0) [.Name (Str.ofString "item") p1, .Name (Str.ofString "kind") p2, .Name (Str.ofString "length") p3, .Name (Str.ofString "card") p4, (.Constant (.int 0) 0 p5), .Name (Str.ofString "is_filled") p6, .Name (Str.ofString "limits") p7] [] p8) { kind := .function, names := [((Str.ofString "card"), .free), ((Str.ofString "is_filled"), .free), ((Str.ofString "item"), .free), ((Str.ofString "kind"), .free), ((Str.ofString "length"), .free), ((Str.ofString "limits"), .free), ((Str.ofString "read_value"), .globalImplicit)], isGenerator := false, isCoroutine := false } [((Str.ofString "limits"), a_limits), ((Str.ofString "length"), a_length), ((Str.ofString "kind"), a_kind), ((Str.ofString "item"), a_item), ((Str.ofString "is_filled"), a_is_filled), ((Str.ofString "card"), a_card)] pm c' ctv) ∈ news) (hcode : (c', oc) ∈ news) (hcd : oc.data = .fields vs) (hcv : vs[1]? = some (.str qual t))
    (h_card : (a_card, o_card) ∈ news) (d_card : o_card.data = .cell (some (.str x t0))) (h_is_filled : (a_is_filled, o_is_filled) ∈ news) (d_is_filled : o_is_filled.data = .cell (some (.bool z))) (h_item : (a_item, o_item) ∈ news) (d_item : o_item.data = .cell (some (.ref it))) (h_kind : (a_kind, o_kind) ∈ news) (d_kind : o_kind.data = .cell (some (.int 0 tk))) (h_length : (a_length, o_length) ∈ news) (d_length : o_length.data = .cell (some (.int n tn))) (h_limits : (a_limits, o_limits) ∈ news) (d_limits : o_limits.data = .cell (some (.ref lim))) (hx : x.length ≤ 9) (hi : (it, itemI t1 t2) ∈ news) (hl : (lim, instObj 204 dx) ∈ news) (hdx : (dx, limD w.params width k0 k1 k2 k3 k4 k5 k6 k7 u0 u1 u2 u3 u4 u5 u6 u7) ∈ news) (hw : 4 ≤ width) (hw1 : width ≤ 12) (hR : R = (readIntS x z width).res) (hdpm : dpm + 26 < recursionLimit) (hunm : unm ≤ 70) :
    Asks w p loose mean mg mb base lam news (fun v => R = ⟨told, v⟩) (fun c => R = ⟨code, .i c⟩) dpm unm := by
  intro dp un gd cn cs a ccd cl outer A₀ h₀ L m s Q E B F X N T hk hdp hun hraise hret
  revert X; k_fill; intro X
  refine wpAny_call ?_
  k_dflt (refine' kla_code ?k1 ?k2 ?k3 ?k4 ?k5 ?kA ?kF ?kK ?k6 ?k7 ?k8 ?k9 ?kB ?_ ?c2 ?c3 ?c4 ?c5; (case kA => exact rfl); (case kF => exact rfl); (case kK => assumption); (case k1 => k_asm); (case k2 => k_asm); (case k3 => k_asm); (case k4 => k_asm); (case k5 => k_asm); (case k6 => exact hlam); (case k7 => exact codeRec_news (by k_asm) hcode hcd hcv); (case k8 => ktr_room); (case k9 => exact rfl); (case c5 => decide); (case kB => exact locs rfl); (case c2 => exact rfl); (case c3 => exact rfl); (case c4 => exact rfl); k_whole; intro g' L' h' FG' F' N' B' X' T'; (try dsimp only); (try k_lift B'); (try k_fold))
  repeat' ((fail_if_success (with_reducible show Q _ _)); (fail_if_success (with_reducible show wpAny _ _ (call (Value.ref _) _) _ _ _)); first | (k_unfold; (try dsimp only)) | (with_reducible refine stripQ ?_; k_unfold; (try dsimp only)) | (k_end; wrow_close) | walk1 | (dsimp only; walk1) | (leave1; walk_say "STEP leave1"; try dsimp only))
  k_dflt (refine' rvalI_ct ?ybx4 ?yfx4 ?yxx4 ?ynx4 ?ytx4 ?ykx4 hi hl hdx (Nat.le_trans hx (by decide)) hw hw1 ?ydx4 ?yux4 ?yex4 ?yrx4)
  case ybx4 => k_asm
  case yfx4 => k_asm
  case yxx4 => k_asm
  case ynx4 => k_asm
  case ytx4 => k_asm
  case ykx4 => exact rfl
  case ydx4 => (show dp + 1 + 24 < _; omega)
  case yux4 => (show un + 3 ≤ 80; omega)
  case yex4 =>
    intro c e D x' u0 u1 u2 u3 G h9 tk9 hbad R9 G9 U9
    exact leave_onD1 B' G9 R9 fun h10 R10 U10 => hraise _ _ _ _ _ _ _ _ _ _ _ (res_bad hR hbad) (R10.down FG'.keep) FG' ((Heap.UpToSlots.of_keeps G9.keep).trans (U9.trans U10))
  intro v t7 h7 tk7 hok F7 N7
  repeat' ((fail_if_success (with_reducible show Q _ _)); (fail_if_success (with_reducible show wpAny _ _ (call (Value.ref _) _) _ _ _)); first | (k_unfold; (try dsimp only)) | (with_reducible refine stripQ ?_; k_unfold; (try dsimp only)) | (k_end; wrow_close) | walk1 | (dsimp only; walk1) | (leave1; walk_say "STEP leave1"; try dsimp only))
  exact hret (.i v) _ _ _ (res_ok hR hok) (by with_reducible assumption) (by with_reducible assumption)
set_option maxRecDepth 100000 in
set_option maxHeartbeats 8000000 in
theorem ask_valL {w : World} {p : Program} {loose : List Str} {mean : ExcName → Option Value} {mg mb : Str → Option Value} {base : Heap} {lam c' a_card a_is_filled a_item a_kind a_length a_limits : Addr} {oc o_card o_is_filled o_item o_kind o_length o_limits : Obj} {vs : Array Value} {news : List (Addr × Obj)}
    {nm qual : Str} {t : Tok} {pm ctv : Value} {p0 p1 p2 p3 p4 p5 p6 p7 p8 : Pos} {dpm unm : Nat} {x : Str} {z : Bool} {n : Int} {it lim : Addr} {t0 tk tn : Tok} {R : Res} {t1 t2 : Tok}
    (hlam : (lam, kla_obj nm qual { posonlyargs := [], args := [], vararg := none, kwonlyargs := [], kw_defaults := [], kwarg := none, defaults := [] } (.Call (.Name (Str.ofString "read_value") p0) [.Name (Str.ofString "item") p1, .Name (Str.ofString "kind") p2, .Name (Str.ofString "length") p3, .Name (Str.ofString "card") p4, (.Constant (.int 0) 0 p5), .Name (Str.ofString "is_filled") p6, .Name (Str.ofString "limits") p7] [] p8) { kind := .function, names := [((Str.ofString "card"), .free), ((Str.ofString "is_filled"), .free), ((Str.ofString "item"), .free), ((Str.ofString "kind"), .free), ((Str.ofString "length"), .free), ((Str.ofString "limits"), .free), ((Str.ofString "read_value"), .globalImplicit)], isGenerator := false, isCoroutine := false } [((Str.ofString "limits"), a_limits), ((Str.ofString "length"), a_length), ((Str.ofString "kind"), a_kind), ((Str.ofString "item"), a_item), ((Str.ofString "is_filled"), a_is_filled), ((Str.ofString "card"), a_card)] pm c' ctv) ∈ news) (hcode : (c', oc) ∈ news) (hcd : oc.data = .fields vs) (hcv : vs[1]? = some (.str qual t))
    (h_card : (a_card, o_card) ∈ news) (d_card : o_card.data = .cell (some (.str x t0))) (h_is_filled : (a_is_filled, o_is_filled) ∈ news) (d_is_filled : o_is_filled.data = .cell (some (.bool z))) (h_item : (a_item, o_item) ∈ news) (d_item : o_item.data = .cell (some (.ref it))) (h_kind : (a_kind, o_kind) ∈ news) (d_kind : o_kind.data = .cell (some (.int 4 tk))) (h_length : (a_length, o_length) ∈ news) (d_length : o_length.data = .cell (some (.int n tn))) (h_limits : (a_limits, o_limits) ∈ news) (d_limits : o_limits.data = .cell (some (.ref lim))) (hx : x.length ≤ 9) (hi : (it, itemL t1 t2) ∈ news) (hR : ∀ i, LeadAt x i → R = (readLogS x i).res) (hdpm : dpm + 26 < recursionLimit) (hunm : unm ≤ 70) :
    Asks w p loose mean mg mb base lam news (fun v => R = ⟨told, v⟩) (fun c => R = ⟨code, .i c⟩) dpm unm := by
  intro dp un gd cn cs a ccd cl outer A₀ h₀ L m s Q E B F X N T hk hdp hun hraise hret
  revert X; k_fill; intro X
  refine wpAny_call ?_
  k_dflt (refine' kla_code ?k1 ?k2 ?k3 ?k4 ?k5 ?kA ?kF ?kK ?k6 ?k7 ?k8 ?k9 ?kB ?_ ?c2 ?c3 ?c4 ?c5; (case kA => exact rfl); (case kF => exact rfl); (case kK => assumption); (case k1 => k_asm); (case k2 => k_asm); (case k3 => k_asm); (case k4 => k_asm); (case k5 => k_asm); (case k6 => exact hlam); (case k7 => exact codeRec_news (by k_asm) hcode hcd hcv); (case k8 => ktr_room); (case k9 => exact rfl); (case c5 => decide); (case kB => exact locs rfl); (case c2 => exact rfl); (case c3 => exact rfl); (case c4 => exact rfl); k_whole; intro g' L' h' FG' F' N' B' X' T'; (try dsimp only); (try k_lift B'); (try k_fold))
  repeat' ((fail_if_success (with_reducible show Q _ _)); (fail_if_success (with_reducible show wpAny _ _ (call (Value.ref _) _) _ _ _)); first | (k_unfold; (try dsimp only)) | (with_reducible refine stripQ ?_; k_unfold; (try dsimp only)) | (k_end; wrow_close) | walk1 | (dsimp only; walk1) | (leave1; walk_say "STEP leave1"; try dsimp only))
  k_dflt (refine' rvalL_ct ?ybx5 ?yfx5 ?yxx5 ?ynx5 ?ytx5 ?ykx5 hi (Nat.le_trans hx (by decide)) ?ydx5 ?yux5 ?yex5 ?yrx5)
  case ybx5 => k_asm
  case yfx5 => k_asm
  case yxx5 => k_asm
  case ynx5 => k_asm
  case ytx5 => k_asm
  case ykx5 => exact rfl
  case ydx5 => (show dp + 1 + 24 < _; omega)
  case yux5 => (show un + 3 ≤ 80; omega)
  case yex5 =>
    intro i c e D x' u0 u1 u2 u3 G h9 tk9 hla hbad R9 G9 U9
    exact leave_onD1 B' G9 R9 fun h10 R10 U10 => hraise _ _ _ _ _ _ _ _ _ _ _ (res_bad (hR i hla) hbad) (R10.down FG'.keep) FG' ((Heap.UpToSlots.of_keeps G9.keep).trans (U9.trans U10))
  intro i v h7 tk7 hla hok F7 N7
  repeat' ((fail_if_success (with_reducible show Q _ _)); (fail_if_success (with_reducible show wpAny _ _ (call (Value.ref _) _) _ _ _)); first | (k_unfold; (try dsimp only)) | (with_reducible refine stripQ ?_; k_unfold; (try dsimp only)) | (k_end; wrow_close) | walk1 | (dsimp only; walk1) | (leave1; walk_say "STEP leave1"; try dsimp only))
  exact hret (.b v) 0 _ _ (res_ok (hR i hla) hok) (by with_reducible assumption) (by with_reducible assumption)
set_option maxRecDepth 100000 in
set_option maxHeartbeats 8000000 in
theorem ask_valA {w : World} {p : Program} {loose : List Str} {mean : ExcName → Option Value} {mg mb : Str → Option Value} {base : Heap} {lam c' a_card a_is_filled a_item a_kind a_length a_limits : Addr} {oc o_card o_is_filled o_item o_kind o_length o_limits : Obj} {vs : Array Value} {news : List (Addr × Obj)}
    {nm qual : Str} {t : Tok} {pm ctv : Value} {p0 p1 p2 p3 p4 p5 p6 p7 p8 : Pos} {dpm unm : Nat} {x : Str} {z : Bool} {n : Int} {it lim : Addr} {t0 tk tn : Tok} {R : Res} {t1 : Tok}
    (hlam : (lam, kla_obj nm qual { posonlyargs := [], args := [], vararg := none, kwonlyargs := [], kw_defaults := [], kwarg := none, defaults := [] } (.Call (.Name (Str.ofString "read_value") p0) [.Name (Str.ofString "item") p1, .Name (Str.ofString "kind") p2, .Name (Str.ofString "length") p3, .Name (Str.ofString "card") p4, (.Constant (.int 0) 0 p5), .Name (Str.ofString "is_filled") p6, .Name (Str.ofString "limits") p7] [] p8) { kind := .function, names := [((Str.ofString "card"), .free), ((Str.ofString "is_filled"), .free), ((Str.ofString "item"), .free), ((Str.ofString "kind"), .free), ((Str.ofString "length"), .free), ((Str.ofString "limits"), .free), ((Str.ofString "read_value"), .globalImplicit)], isGenerator := false, isCoroutine := false } [((Str.ofString "limits"), a_limits), ((Str.ofString "length"), a_length), ((Str.ofString "kind"), a_kind), ((Str.ofString "item"), a_item), ((Str.ofString "is_filled"), a_is_filled), ((Str.ofString "card"), a_card)] pm c' ctv) ∈ news) (hcode : (c', oc) ∈ news) (hcd : oc.data = .fields vs) (hcv : vs[1]? = some (.str qual t))
    (h_card : (a_card, o_card) ∈ news) (d_card : o_card.data = .cell (some (.str x t0))) (h_is_filled : (a_is_filled, o_is_filled) ∈ news) (d_is_filled : o_is_filled.data = .cell (some (.bool z))) (h_item : (a_item, o_item) ∈ news) (d_item : o_item.data = .cell (some (.ref it))) (h_kind : (a_kind, o_kind) ∈ news) (d_kind : o_kind.data = .cell (some (.int 5 tk))) (h_length : (a_length, o_length) ∈ news) (d_length : o_length.data = .cell (some (.int n tn))) (h_limits : (a_limits, o_limits) ∈ news) (d_limits : o_limits.data = .cell (some (.ref lim))) (hx : x.length ≤ 9) (hi : (it, itemA t1) ∈ news) (hn0 : 0 ≤ n) (hn1 : n ≤ 12) (hR : R = ⟨told, .s (rtextS x n)⟩) (hdpm : dpm + 26 < recursionLimit) (hunm : unm ≤ 70) :
    Asks w p loose mean mg mb base lam news (fun v => R = ⟨told, v⟩) (fun c => R = ⟨code, .i c⟩) dpm unm := by
  intro dp un gd cn cs a ccd cl outer A₀ h₀ L m s Q E B F X N T hk hdp hun hraise hret
  revert X; k_fill; intro X
  refine wpAny_call ?_
  k_dflt (refine' kla_code ?k1 ?k2 ?k3 ?k4 ?k5 ?kA ?kF ?kK ?k6 ?k7 ?k8 ?k9 ?kB ?_ ?c2 ?c3 ?c4 ?c5; (case kA => exact rfl); (case kF => exact rfl); (case kK => assumption); (case k1 => k_asm); (case k2 => k_asm); (case k3 => k_asm); (case k4 => k_asm); (case k5 => k_asm); (case k6 => exact hlam); (case k7 => exact codeRec_news (by k_asm) hcode hcd hcv); (case k8 => ktr_room); (case k9 => exact rfl); (case c5 => decide); (case kB => exact locs rfl); (case c2 => exact rfl); (case c3 => exact rfl); (case c4 => exact rfl); k_whole; intro g' L' h' FG' F' N' B' X' T'; (try dsimp only); (try k_lift B'); (try k_fold))
  repeat' ((fail_if_success (with_reducible show Q _ _)); (fail_if_success (with_reducible show wpAny _ _ (call (Value.ref _) _) _ _ _)); first | (k_unfold; (try dsimp only)) | (with_reducible refine stripQ ?_; k_unfold; (try dsimp only)) | (k_end; wrow_close) | walk1 | (dsimp only; walk1) | (leave1; walk_say "STEP leave1"; try dsimp only))
  k_dflt (refine' rvalA_ct ?ybx6 ?yfx6 ?yxx6 ?ynx6 ?ytx6 ?ykx6 hi (Nat.le_trans hx (by decide)) hn0 (Int.le_trans hn1 (by decide)) ?ydx6 ?yux6 ?yrx6)
  case ybx6 => k_asm
  case yfx6 => k_asm
  case yxx6 => k_asm
  case ynx6 => k_asm
  case ytx6 => k_asm
  case ykx6 => exact rfl
  case ydx6 => (show dp + 1 + 24 < _; omega)
  case yux6 => (show un + 3 ≤ 80; omega)
  intro t7 h7 tk7 F7 N7
  repeat' ((fail_if_success (with_reducible show Q _ _)); (fail_if_success (with_reducible show wpAny _ _ (call (Value.ref _) _) _ _ _)); first | (k_unfold; (try dsimp only)) | (with_reducible refine stripQ ?_; k_unfold; (try dsimp only)) | (k_end; wrow_close) | walk1 | (dsimp only; walk1) | (leave1; walk_say "STEP leave1"; try dsimp only))
  exact hret (.s (rtextS x n)) _ _ _ hR (by with_reducible assumption) (by with_reducible assumption)
end Mine
end
section
namespace Mine
local macro_rules | `(tactic| k_all) => `(tactic| assumption)
set_option maxRecDepth 100000 in
set_option maxHeartbeats 8000000 in
theorem shake_ct {w : World} {p : Program} {loose : List Str} {mean : ExcName → Option Value} {mg mb : Str → Option Value}
    {dp un : Nat} {gd : Option (List Code)} {cn : Str} {cs : Scope} {a : Addr} {ccd : Value} {cl : List (Str × Addr)} {outer : List Env} {A₀ : Around} {base h₀ : Heap} {L : Addr} {m : Str → Option Value} {s : Shared} {Q E : Value → Shared → Prop}
    {d D : Addr} {o : Obj} {vs : List Value} {ns : List Int} {k sides : Int} {t0 t1 t2 t3 : Tok} {rest : List (Addr × Obj)}
    (B : Below A₀ base outer h₀) (F : Fr h₀ L s.heap m) (X : (Mine.hd.heap_1 w.params).In h₀) (N : News h₀ L s.heap ((d, o) :: (D, PySem.W.listOf vs.toArray 0) :: rest)) (T : Top p loose mean mg mb h₀) (hk : cs.kind = .function)
    (hd : o.IsDictOf (PySem.strKind PySem.Challenge.rw_pf0120_01.row.prog w) (strPairs [(.str "cells" t0, .ref D), (.str "shaken" t1, .int k t2)]))
    (hI : IntsAre vs ns) (hn : ns.length ≤ 63) (h1 : D ≠ d) (h2 : ∀ q ∈ rest, q.1 ≠ d) (hk0 : 0 ≤ k) (hk1 : k ≤ 100000) (hs0 : 1 ≤ sides) (hs1 : sides ≤ 100)
    (hdp : dp + 1 < recursionLimit) (hun : un + 8 < cLine)
    (hret : ∀ (r : Int) (t t' : Tok) (o' : Obj) (h' : Heap) (tk' : Nat), 0 ≤ r → r < sides → o'.IsDictOf (PySem.strKind PySem.Challenge.rw_pf0120_01.row.prog w) (strPairs [(.str "cells" t0, .ref D), (.str "shaken" t1, .int (k + 1) t')]) →
      Fr h₀ L h' m → News h₀ L h' ((d, o') :: (D, PySem.W.listOf vs.toArray 0) :: rest) → Q (.int r t) { s with heap := h', toks := tk' }) :
    wpAny (model PySem.Challenge.rw_pf0120_01.row.prog w) (ktrTop dp un gd cn cs L a ccd cl outer) (call (.ref 215) [.ref d, .int sides t3]) Q E s := by
  revert X; k_fill; intro X
  refine wpAny_call ?_
  k_dflt cell_enter
  k_steps
  · refine hret _ _ _ _ _ _ ?_ ?_ (by assumption) (by assumption) (by assumption)
    · rw [Int.fmod_eq_emod_of_nonneg _ (by omega)]; exact Int.emod_nonneg _ (by omega)
    · rw [Int.fmod_eq_emod_of_nonneg _ (by omega)]; exact Int.emod_lt_of_pos _ (by omega)
  · refine hret _ _ _ _ _ _ ?_ ?_ (by assumption) (by assumption) (by assumption)
    · rw [Int.fmod_eq_emod_of_nonneg _ (by omega)]; exact Int.emod_nonneg _ (by omega)
    · rw [Int.fmod_eq_emod_of_nonneg _ (by omega)]; exact Int.emod_lt_of_pos _ (by omega)
end Mine
end
section
namespace Mine

abbrev IsCup (w : World) (o : Obj) (D : Addr) (t0 t1 t2 : Tok) (k : Int) : Prop := o.IsDictOf (PySem.strKind PySem.Challenge.rw_pf0120_01.row.prog w) [(Str.ofString "cells", .ref D), (Str.ofString "shaken", .int k t2)]
section
variable {w : World} {A : Around} {h₀ : Heap} {L : Addr} {m : Str → Option Value} {env : Env} {elt : Expr} {x : Str} {scope : Scope} {cl : List (Str × Addr)} {s : Shared} {Fin : List Value → List (Addr × Obj) → Prop}
def CardEl (w : World) (rest : List (Addr × Obj)) (d D : Addr) (k : Int) (y : Value) (news' : List (Addr × Obj)) : Prop :=
  ∃ o' t2 t z, news' = (d, o') :: rest ∧ IsCup w o' D 0 0 t2 (k + 1) ∧ y = .str z t ∧ OneSign z
theorem card_rest {n : Nat} {d D : Addr} {rest : List (Addr × Obj)} {k0 : Int}
    (turn : ∀ (v : Value) I oI C oC Dl m₂ ys h tk (E' : Value → Shared → Prop) o t2 k, k0 ≤ k → k ≤ k0 + n → IsCup w o D 0 0 t2 k → LCg.NsObj oC m₂ → m₂ x = some v → Fr h₀ L h m → News h₀ L h ((I, oI) :: (C, oC) :: (Dl, LCg.lst ys) :: ((d, o) :: rest)) → LCg.Off3 I C Dl ((d, o) :: rest) → ((@Ne Nat I C) ∧ (@Ne Nat I Dl) ∧ (@Ne Nat C Dl)) →
      wpAny (model PySem.Challenge.rw_pf0120_01.row.prog w) A (eval elt (compEnvC scope cl C env)) (LCg.CompEnd h₀ L m { s with heap := h, toks := tk } I oI C oC Dl (LCg.lst ys) (fun _ => True) (fun y news' => CardEl w rest d D k y news')) E' { s with heap := h, toks := tk })
    (fin : ∀ ys ws o t2 k, k0 ≤ k → k ≤ k0 + n → StrsAre ys ws → (∀ z ∈ ws, OneSign z) → ws.length = n → IsCup w o D 0 0 t2 k → Fin ys ((d, o) :: rest)) {o : Obj} {t2 : Tok} {P : Nat → Value → Prop} (hd : IsCup w o D 0 0 t2 k0) :
    LCg.CompRest PySem.Challenge.rw_pf0120_01.row.prog w A h₀ L m env elt x scope cl s (fun _ => True) P Fin n 0 [] ((d, o) :: rest) := by
  have key : ∀ (j i : Nat) (ys : List Value) (ws : List Str) (o : Obj) (t2 : Tok) (k : Int), i + j = n → k = k0 + i → StrsAre ys ws → (∀ z ∈ ws, OneSign z) → ws.length = i → IsCup w o D 0 0 t2 k →
      LCg.CompRest PySem.Challenge.rw_pf0120_01.row.prog w A h₀ L m env elt x scope cl s (fun _ => True) P Fin j i ys ((d, o) :: rest) := by
    intro j
    induction j with
    | zero =>
      intro i ys ws o t2 k hi hk hy hz hl ho
      exact LCg.CompRest.zero (fin ys ws o t2 k (by omega) (by omega) hy hz (by omega) ho)
    | succ j ih =>
      intro i ys ws o t2 k hi hk hy hz hl ho
      refine LCg.CompRest.succ ?_
      intro v I oI C oC Dl m₂ h tk E' hv hC hx F N off ne
      refine wpAny_mono (turn v I oI C oC Dl m₂ ys h tk E' o t2 k (by omega) (by omega) ho hC hx F N off ne) (fun y s₂ hq => ?_) fun _ _ e => e
      obtain ⟨h', tk', nw, e, F', N', off', _, o', t2', t, z, rfl, ho', rfl, hz'⟩ := hq
      refine ⟨h', tk', _, e, F', N', off', trivial, ?_⟩
      exact ih (i + 1) _ _ o' t2' _ (by omega) (by omega) (kct_snoc hy) (fun q hq => by
        rcases List.mem_append.mp hq with hq | hq
        · exact hz q hq
        · rw [List.mem_singleton.mp hq]; exact hz') (by simp [hl]) ho'
  exact key n 0 [] [] o t2 k0 (by omega) (by omega) .nil (fun _ hq => nomatch hq) rfl hd
theorem card_end {d D I C Dl : Addr} {q : Addr × Obj} {o7 o c oI oC oD : Obj} {rest : List (Addr × Obj)} {k : Int} {y : Value} {h' : Heap} {tk : Nat} (F : Fr h₀ L h' m) (N : News h₀ L h' ((d, o7) :: (D, c) :: (I, oI) :: (C, oC) :: (Dl, oD) :: q :: rest)) (off : LCg.Off3 I C Dl ((d, o) :: (D, c) :: q :: rest))
    (r : CardEl w ((D, c) :: q :: rest) d D k y ((d, o7) :: (D, c) :: q :: rest)) :
    LCg.CompEnd h₀ L m s I oI C oC Dl oD (fun _ => True) (fun y news' => CardEl w ((D, c) :: q :: rest) d D k y news') y { s with heap := h', toks := tk } :=
  LCg.CompEnd.intro F N ((d, o7) :: (D, c) :: q :: rest) (fun p hp => by
    simp only [List.mem_cons] at hp ⊢
    rcases hp with h | h | h | h | h | h | h <;> simp [h]) off trivial r
theorem card_list {D : Addr} {ys : List Value} {g : Heap} {news : List (Addr × Obj)} (N : News g L s.heap news) (hm : (D, LCg.lst ys) ∈ news) : s.heap.IsList D ys.toArray := ⟨_, N.get hm, rfl, _, rfl⟩
end
set_option maxRecDepth 100000 in
set_option maxHeartbeats 8000000 in
theorem card_ct {w : World} {p : Program} {loose : List Str} {mean : ExcName → Option Value} {mg mb : Str → Option Value}
    {dp un : Nat} {gd : Option (List Code)} {cn : Str} {cs : Scope} {a : Addr} {ccd : Value} {cl : List (Str × Addr)} {outer : List Env} {A₀ : Around} {base h₀ : Heap} {L : Addr} {m : Str → Option Value} {s : Shared} {Q E : Value → Shared → Prop}
    {d D : Addr} {o : Obj} {vs : List Value} {ns : List Int} {k : Int} {t2 : Tok} {rest : List (Addr × Obj)}
    (B : Below A₀ base outer h₀) (F : Fr h₀ L s.heap m) (X : (Mine.hd.heap_1 w.params).In h₀) (N : News h₀ L s.heap ((d, o) :: (D, PySem.W.listOf vs.toArray 0) :: rest)) (T : Top p loose mean mg mb h₀) (hk : cs.kind = .function)
    (hd : IsCup w o D 0 0 t2 k) (hI : IntsAre vs ns) (hn : ns.length ≤ 63) (h1 : D ≠ d) (h2 : ∀ q ∈ rest, q.1 ≠ d) (hk0 : 0 ≤ k) (hk1 : k ≤ 10000) (hdp : dp + 10 < recursionLimit) (hun : un ≤ 200)
    (hret : ∀ (x : Str) (t : Tok) (o' : Obj) (t2' : Tok) (k' : Int) (h' : Heap) (tk' : Nat), Alpha x → x.length ≤ 9 → k ≤ k' → k' ≤ k + 20 → IsCup w o' D 0 0 t2' k' → Fr h₀ L h' m → News h₀ L h' ((d, o') :: (D, PySem.W.listOf vs.toArray 0) :: rest) → Q (.str x t) { s with heap := h', toks := tk' }) :
    wpAny (model PySem.Challenge.rw_pf0120_01.row.prog w) (ktrTop dp un gd cn cs L a ccd cl outer) (call (.ref 220) [.ref d]) Q E s := by
  revert X; k_fill; intro X
  refine wpAny_call ?_
  k_dflt (refine' code_defC ?k1 ?k2 ?k3 ?k4 ?k5 ?kA ?kF ?kK ?k6 ?k7 ?k8 ?k9 ?kB ?kD ?_ ?c2 ?c3 ?c4; (case kA => exact rfl); (case kF => exact rfl); (case kK => assumption); (case k1 => k_asm); (case k2 => k_asm); (case k3 => k_asm); (case k4 => k_asm); (case k5 => k_asm); (case k6 => k_is); (case k7 => k_is); (case k8 => ktr_room); (case k9 => exact BindsTo.of_eq rfl); (case kB => exact rfl); (case kD => decide +kernel); (case c2 => exact rfl); (case c3 => exact rfl); (case c4 => exact rfl); k_whole; intro g' L' h' tk' cells' FG' F' N' Y' B' X' T' l1; (try k_lt l1); k_cells Y'; (try simp only [List.cons_append, List.nil_append] at N'); (try dsimp only); (try k_lift B'); (try k_fold))
  repeat' ((fail_if_success (with_reducible show Q _ _)); (fail_if_success (with_reducible show wpAny _ _ (call (Value.ref 215) _) _ _ _)); (fail_if_success (with_reducible show wpAny _ _ (eval (Expr.ListComp _ _ _ _) _) _ _ _)); first | (k_unfold; (try dsimp only)) | (with_reducible refine stripQ ?_; k_unfold; (try dsimp only)) | (k_end; wrow_close) | walk1 | (dsimp only; walk1) | (leave1; walk_say "STEP leave1"; try dsimp only))
  k_dflt (refine LCg.ListComp_U (F₀ := by k_asm) (by with_unfolding_all rfl) (by decide) (by rfl) (by decide) (by rfl) ?_)
  repeat' ((fail_if_success (with_reducible show Q _ _)); (fail_if_success (with_reducible show wpAny _ _ (call (Value.ref 215) _) _ _ _)); first | (k_unfold; (try dsimp only)) | (with_reducible refine stripQ ?_; k_unfold; (try dsimp only)) | (k_end; wrow_close) | walk1 | (dsimp only; walk1) | (leave1; walk_say "STEP leave1"; try dsimp only))
  k_dflt (refine' shake_ct (t0 := 0) (t1 := 0) ?ybx1 ?yfx1 ?yxx1 ?ynx1 ?ytx1 ?ykx1 hd hI hn h1 ?yax1 (by omega) (by omega) (by decide) (by decide) ?ydx1 ?yux1 ?yrx1); (case ybx1 => k_asm); (case yfx1 => k_asm); (case yxx1 => k_asm); (case ynx1 => exact news_rot (by k_asm)); (case ytx1 => k_asm); (case ykx1 => exact rfl); (case yax1 => refine List.forall_mem_cons.mpr ⟨?_, h2⟩; k_ne); (case ydx1 => first | ktr_room | omega); (case yux1 => first | ktr_units | omega)
  intro r9 t9 t9' o9 h9 tk9 hr0 hr1 ho9 F9 N9
  (try dsimp only)
  repeat' ((fail_if_success (with_reducible show Q _ _)); (fail_if_success (with_reducible show LCg.CompSrc _ _ _ _ _ _ _ _ _ _ _ _ _ _)); first | (k_unfold; (try dsimp only)) | (with_reducible refine stripQ ?_; k_unfold; (try dsimp only)) | (k_end; wrow_close) | walk1 | (dsimp only; walk1) | (leave1; walk_say "STEP leave1"; try dsimp only))
  k_dflt (refine LCg.CompSrc.range (n := r9.toNat) (by rfl) (by k_asm) (by k_asm) (by assumption) (small_one (by omega) (by omega) (by omega) (by omega)) (by rw [rangeSize_nat]; simp) (by rw [sizeLine_eq]; omega) ?_)
  intro g8
  refine card_rest (k0 := k + 1) ?_ ?_ ho9
  · intro v I oI C oC Dl m₂ ys h tk E' o t2 k9 hk9 hk8 ho hC hx F8 N8 off8 ne8
    repeat' ((fail_if_success (with_reducible show Q _ _)); (fail_if_success (with_reducible show wpAny _ _ (call (Value.ref 215) _) _ _ _)); first | (k_unfold; (try dsimp only)) | (with_reducible refine stripQ ?_; k_unfold; (try dsimp only)) | (k_end; wrow_close) | walk1 | (dsimp only; walk1) | (leave1; walk_say "STEP leave1"; try dsimp only))
    k_dflt (refine' shake_ct (t0 := 0) (t1 := 0) ?ybx2 ?yfx2 ?yxx2 ?ynx2 ?ytx2 ?ykx2 ho hI hn h1 ?yax2 (by omega) (by omega) (by decide) (by decide) ?ydx2 ?yux2 ?yrx2); (case ybx2 => k_asm); (case yfx2 => k_asm); (case yxx2 => k_asm); (case ynx2 => exact news_rot4 (by k_asm)); (case ytx2 => k_asm); (case ykx2 => exact rfl); (case yax2 => (simp only [LCg.Off3] at off8; refine List.forall_mem_cons.mpr ⟨?_, List.forall_mem_cons.mpr ⟨?_, List.forall_mem_cons.mpr ⟨?_, List.forall_mem_cons.mpr ⟨?_, h2⟩⟩⟩⟩; (exact Ne.symm off8.1.1); (exact Ne.symm off8.1.2.1); (exact Ne.symm off8.1.2.2); k_ne)); (case ydx2 => first | ktr_room | omega); (case yux2 => first | ktr_units | omega)
    intro r7 t7 t7' o7 h7 tk7 hr7 hr8 ho7 F7 N7
    (try dsimp only)
    repeat' ((fail_if_success (with_reducible show Q _ _)); (fail_if_success (with_reducible show LCg.CompEnd _ _ _ _ _ _ _ _ _ _ _ _ _ _)); (fail_if_success (with_reducible show qk _ _)); first | (k_unfold; (try dsimp only)) | (with_reducible refine stripQ ?_; k_unfold; (try dsimp only)) | (k_end; wrow_close) | walk1 | (dsimp only; walk1) | (leave1; walk_say "STEP leave1"; try dsimp only))
    k_unfold
    (try dsimp only)
    exact card_end F7 N7 off8 ⟨o7, t7', _, _, rfl, ho7, rfl, ls_one hr7 hr8⟩
  · intro ys ws o t2 k9 hk9 hk8 hy hz hl ho
    repeat' ((fail_if_success (with_reducible show Q _ _)); (fail_if_success (with_reducible show wpAny _ _ (call (Value.builtin _) _) _ _ _)); first | (k_unfold; (try dsimp only)) | (with_reducible refine stripQ ?_; k_unfold; (try dsimp only)) | (k_end; wrow_close) | walk1 | (dsimp only; walk1) | (leave1; walk_say "STEP leave1"; try dsimp only))
    k_dflt (refine join_listW (items := ys.toArray) (ys := ws) (card_list (by k_asm) (by k_mem)) hy (by decide) ?_ ?_)
    · rw [sum_one ws hz]; omega
    · intro t6 k6
      (try dsimp only)
      repeat' ((fail_if_success (with_reducible show Q _ _)); first | (k_unfold; (try dsimp only)) | (with_reducible refine stripQ ?_; k_unfold; (try dsimp only)) | (k_end; wrow_close) | walk1 | (dsimp only; walk1) | (leave1; walk_say "STEP leave1"; try dsimp only))
      have hj := join_one ws hz
      refine hret _ _ o _ k9 _ _ hj.1 (by rw [hj.2]; omega) (by omega) (by omega) ho (by with_reducible assumption) (cb_drop (by with_reducible assumption) ?_)
      intro q hq
      simp only [List.mem_cons] at hq ⊢
      rcases hq with h | h | h <;> simp [h]
end Mine
end
section
set_option maxRecDepth 100000
namespace Mine
theorem range_place (a b n : Int) : (Builtin.Range.rangePlace? a b 1 n).isSome = decide (a ≤ n ∧ n < b) := by
  unfold Builtin.Range.rangePlace?
  simp only [show (1 : Int) > 0 from by decide, if_true]
  by_cases h : a ≤ n ∧ n < b
  · have e : (decide (a ≤ n) && decide (n < b) && ((n - a) % 1 == 0)) = true := by
      rw [decide_eq_true h.1, decide_eq_true h.2, Int.emod_one]; rfl
    rw [if_pos e, decide_eq_true h]; rfl
  · have e : ¬ (decide (a ≤ n) && decide (n < b) && ((n - a) % 1 == 0)) = true := by
      intro q
      simp only [Bool.and_eq_true, decide_eq_true_eq] at q
      exact h ⟨q.1.1, q.1.2⟩
    rw [if_neg e, decide_eq_false h]; rfl
theorem in_range {prog : Program} {w : World} {A : Around} {E : Value → Shared → Prop} {s : Shared} {r : Addr} {a b n : Int} {t u v tn : Tok} {Q : Value → Shared → Prop}
    (hr : IsRange s.heap r a b 1 t u v) (h : Q (.bool (decide (a ≤ n ∧ n < b))) s) : wpAny (model prog w) A (compareOp .In (.int n tn) (.ref r)) Q E s := by
  have hT : s.TypeIs (.ref r) "range" := ⟨_, hr, rfl⟩
  show wpAny _ A (do return .bool (← contains (.ref r) (.int n tn))) Q E s
  refine wpAny_bind (wpAny_contains_slot hT F.slot_range_contains ?_)
  refine wpAny_call_entry F.slot_range_contains hT F.entry_range_contains ?_ (F.args_range_contains_2 _ _)
  rw [← range_place] at h
  obtain ⟨hp, g, d, tk, os⟩ := s
  wp_walk using PySem.AutoSeq1.wpAny_loadPart' hr
  exact ⟨_, rfl, wpAny_truthy_bool (wpAny_pure h)⟩
end Mine
end
section
namespace Mine
def firstT (x : Str) (l : List Int) (k : Int) : List Int := if (Txt.item x k != Str.ofString " ") = true then l ++ [k] else l
abbrev occ (y c : Str) : Bool := (Builtin.Str.occurrences y c 0 y.length 1).isEmpty
def wT (x : Str) (z : Bool) (k0 : Int) (st : Option (Int × Int × Bool)) (k : Int) : Option (Int × Int × Bool) := st.bind fun p =>
  if k = k0 ∧ occ (Str.ofString "+-") (Txt.item x k) = false then some (p.1, p.2.1, Txt.item x k == Str.ofString "-")
  else if occ (Str.ofString "0123456789") (Txt.item x k) = false ∨ ((Txt.item x k == Str.ofString " ") = true ∧ z = true) then
    some (10 * p.1 + (if (Txt.item x k == Str.ofString " ") = true then 0 else (((Txt.item x k).cps.getD 0 0 : Nat) : Int) - 48), p.2.1 + 1, p.2.2)
  else if (Txt.item x k != Str.ofString " ") = true then none else some p
def wF (x : Str) (z : Bool) (k0 : Int) (l : List Int) : Option (Int × Int × Bool) := l.foldl (wT x z k0) (some (0, 0, false))
def firstL (x : Str) : List Int := (rangeKs 0 x.length).foldl (firstT x) []
def lawWhole (x : Str) (z : Bool) (width : Int) : Res := match firstL x with
  | [] => ⟨told, .i 0⟩
  | k0 :: _ => match wF x z k0 (rangeKs k0 (x.length - k0).toNat) with
    | none => ⟨code, .i 1⟩
    | some (n, m, mi) => if m = 0 then ⟨code, .i 1⟩ else
        if -((2 : Int) ^ width.toNat).fdiv 2 ≤ (if mi = true then -n else n) ∧ (if mi = true then -n else n) < ((2 : Int) ^ width.toNat).fdiv 2 then ⟨told, .i (if mi = true then -n else n)⟩ else ⟨code, .i 2⟩
theorem wF_snoc (x : Str) (z : Bool) (k0 : Int) (l : List Int) (k : Int) : wF x z k0 (l ++ [k]) = wT x z k0 (wF x z k0 l) k := by unfold wF; rw [List.foldl_append]; rfl
section
variable {x : Str} {z : Bool} {k0 k : Int} {r0 pre : List Int} {n m : Int} {mi : Bool}
theorem wt_sign (h : wF x z k0 pre = some (n, m, mi)) (e : k = (k0 :: r0).getD (Int.toNat 0) 0) (ho : occ (Str.ofString "+-") (Txt.item x k) = false) : wF x z k0 (pre ++ [k]) = some (n, m, Txt.item x k == Str.ofString "-") := by
  rw [wF_snoc, h]; unfold wT; rw [Option.bind_some, if_pos ⟨e, ho⟩]
theorem no_sign (hs : k ≠ (k0 :: r0).getD (Int.toNat 0) 0 ∨ occ (Str.ofString "+-") (Txt.item x k) = true) : ¬ (k = k0 ∧ occ (Str.ofString "+-") (Txt.item x k) = false) := by
  rintro ⟨e, ho⟩
  rcases hs with q | q
  · exact q e
  · rw [q] at ho; cases ho
theorem wt_blank (h : wF x z k0 pre = some (n, m, mi)) (hs : k ≠ (k0 :: r0).getD (Int.toNat 0) 0 ∨ occ (Str.ofString "+-") (Txt.item x k) = true) (hb : (Txt.item x k == Str.ofString " ") = true) (hd : occ (Str.ofString "0123456789") (Txt.item x k) = false ∨ z = true) :
    wF x z k0 (pre ++ [k]) = some (10 * n + 0, m + 1, mi) := by
  rw [wF_snoc, h]; unfold wT; rw [Option.bind_some, if_neg (no_sign hs), if_pos (hd.imp id fun q => ⟨hb, q⟩), if_pos hb]
theorem wt_digit (h : wF x z k0 pre = some (n, m, mi)) (hs : k ≠ (k0 :: r0).getD (Int.toNat 0) 0 ∨ occ (Str.ofString "+-") (Txt.item x k) = true) (hb : (Txt.item x k == Str.ofString " ") = false) (hd : occ (Str.ofString "0123456789") (Txt.item x k) = false) :
    wF x z k0 (pre ++ [k]) = some (10 * n + ((((Txt.item x k).cps.getD 0 0 : Nat) : Int) - 48), m + 1, mi) := by
  rw [wF_snoc, h]; unfold wT; rw [Option.bind_some, if_neg (no_sign hs), if_pos (.inl hd), if_neg (by rw [hb]; decide)]
theorem no_fig (hd : occ (Str.ofString "0123456789") (Txt.item x k) = true) (hz : (Txt.item x k == Str.ofString " ") = false ∨ z = false) :
    ¬ (occ (Str.ofString "0123456789") (Txt.item x k) = false ∨ ((Txt.item x k == Str.ofString " ") = true ∧ z = true)) := by
  rintro (q | ⟨q1, q2⟩)
  · rw [hd] at q; cases q
  · rcases hz with q | q
    · rw [q] at q1; cases q1
    · rw [q] at q2; cases q2
theorem wt_skip (h : wF x z k0 pre = some (n, m, mi)) (hs : k ≠ (k0 :: r0).getD (Int.toNat 0) 0 ∨ occ (Str.ofString "+-") (Txt.item x k) = true) (hd : occ (Str.ofString "0123456789") (Txt.item x k) = true) (hz : (Txt.item x k == Str.ofString " ") = false ∨ z = false)
    (hb : (Txt.item x k != Str.ofString " ") = false) : wF x z k0 (pre ++ [k]) = some (n, m, mi) := by
  rw [wF_snoc, h]; unfold wT; rw [Option.bind_some, if_neg (no_sign hs), if_neg (no_fig hd hz), if_neg (by rw [hb]; decide)]
theorem wt_out (h : wF x z k0 pre = some (n, m, mi)) (hs : k ≠ (k0 :: r0).getD (Int.toNat 0) 0 ∨ occ (Str.ofString "+-") (Txt.item x k) = true) (hd : occ (Str.ofString "0123456789") (Txt.item x k) = true) (hz : (Txt.item x k == Str.ofString " ") = false ∨ z = false)
    (hb : (Txt.item x k != Str.ofString " ") = true) : wF x z k0 (pre ++ [k]) = none := by
  rw [wF_snoc, h]; unfold wT; rw [Option.bind_some, if_neg (no_sign hs), if_neg (no_fig hd hz), if_pos hb]
end
theorem rk_split (a : Int) (i j : Nat) : ∃ r, rangeKs a (i + j) = rangeKs a i ++ r := by
  refine ⟨(rangeKs a (i + j)).drop i, ?_⟩
  have e : (rangeKs a (i + j)).take i = rangeKs a i := by
    unfold rangeKs
    rw [← List.map_take, List.take_range]
    congr 1
    congr 1
    omega
  rw [← e, List.take_append_drop]
theorem rk_succ (a : Int) (i : Nat) : rangeKs a (i + 1) = rangeKs a i ++ [a + (i : Int)] := by
  unfold rangeKs
  rw [List.range_succ, List.map_append]; rfl
def IsRk (a : Int) (pre : List Int) : Prop := pre = rangeKs a pre.length
theorem rk_start (a : Int) : IsRk a [] := rfl
theorem rk_snoc {pre : List Int} {a k : Int} (h : IsRk a pre) (e : k = a + (pre.length : Int)) : IsRk a (pre ++ [k]) := by
  unfold IsRk at h ⊢
  rw [List.length_append, List.length_singleton, rk_succ, ← h, e]
theorem wF_none {x : Str} {z : Bool} {k0 : Int} (l : List Int) : l.foldl (wT x z k0) none = none := by
  induction l with
  | nil => rfl
  | cons c r ih => exact ih
theorem w_out {x : Str} {z : Bool} {k0 k width : Int} {r0 pre : List Int} (h0 : (rangeKs 0 x.length).foldl (firstT x) [] = k0 :: r0) (hp : IsRk k0 pre) (e : k = k0 + (pre.length : Int)) (hl : pre.length < (x.length - k0).toNat) (h : wF x z k0 (pre ++ [k]) = none) : lawWhole x z width = ⟨code, .i 1⟩ := by
  unfold lawWhole firstL
  rw [h0]
  dsimp only
  obtain ⟨r, er⟩ := rk_split k0 (pre ++ [k]).length ((x.length - k0).toNat - (pre ++ [k]).length)
  have e2 : (pre ++ [k]).length + ((x.length - k0).toNat - (pre ++ [k]).length) = (x.length - k0).toNat := by
    rw [List.length_append, List.length_singleton]; omega
  have e4 : pre ++ [k] = rangeKs k0 (pre ++ [k]).length := rk_snoc hp e
  rw [e2, ← e4] at er
  have e3 : wF x z k0 (rangeKs k0 (x.length - k0).toNat) = none := by
    rw [er]
    unfold wF at h ⊢
    rw [List.foldl_append, h, wF_none]
  rw [e3]
theorem w_nil {x : Str} {z : Bool} {width : Int} (h : decide ((rangeKs 0 x.length).foldl (firstT x) [] = []) = true) : lawWhole x z width = ⟨told, .i 0⟩ := by
  unfold lawWhole firstL
  rw [of_decide_eq_true h]
theorem w_zero {x : Str} {z : Bool} {k0 width n m : Int} {mi : Bool} {r0 : List Int} (h0 : (rangeKs 0 x.length).foldl (firstT x) [] = k0 :: r0) (h : wF x z k0 (rangeKs k0 (x.length - k0).toNat) = some (n, m, mi)) (hm : m = 0) : lawWhole x z width = ⟨code, .i 1⟩ := by
  unfold lawWhole firstL
  rw [h0]
  dsimp only
  rw [h]
  dsimp only
  rw [if_pos hm]
theorem sgn_is {v n : Int} {mi : Bool} (hv : (mi = true ∧ v = -n) ∨ (mi = false ∧ v = n)) : v = if mi = true then -n else n := by
  rcases hv with ⟨rfl, rfl⟩ | ⟨rfl, rfl⟩ <;> rfl
theorem w_told {x : Str} {z : Bool} {k0 width n m v : Int} {mi : Bool} {r0 : List Int} (h0 : (rangeKs 0 x.length).foldl (firstT x) [] = k0 :: r0) (h : wF x z k0 (rangeKs k0 (x.length - k0).toNat) = some (n, m, mi)) (hm : m ≠ 0) (hv : (mi = true ∧ v = -n) ∨ (mi = false ∧ v = n))
    (hr : -((2 : Int) ^ width.toNat).fdiv 2 ≤ v ∧ v < ((2 : Int) ^ width.toNat).fdiv 2) : lawWhole x z width = ⟨told, .i v⟩ := by
  have hv := sgn_is hv
  unfold lawWhole firstL
  rw [h0]
  dsimp only
  rw [h]
  dsimp only
  rw [if_neg hm, ← hv, if_pos hr]
theorem w_far {x : Str} {z : Bool} {k0 width n m v : Int} {mi : Bool} {r0 : List Int} (h0 : (rangeKs 0 x.length).foldl (firstT x) [] = k0 :: r0) (h : wF x z k0 (rangeKs k0 (x.length - k0).toNat) = some (n, m, mi)) (hm : m ≠ 0) (hv : (mi = true ∧ v = -n) ∨ (mi = false ∧ v = n))
    (hr : ¬ (-((2 : Int) ^ width.toNat).fdiv 2 ≤ v ∧ v < ((2 : Int) ^ width.toNat).fdiv 2)) : lawWhole x z width = ⟨code, .i 2⟩ := by
  have hv := sgn_is hv
  unfold lawWhole firstL
  rw [h0]
  dsimp only
  rw [h]
  dsimp only
  rw [if_neg hm, ← hv, if_neg hr]
end Mine
end
section
namespace Mine

local macro_rules | `(tactic| units_room) => `(tactic| ktr_units)
theorem first_bounds {x : Str} (h : decide (List.foldl (firstT x) [] (rangeKs 0 x.length) = []) = false) : 0 ≤ (List.foldl (firstT x) [] (rangeKs 0 x.length)).headD 0 ∧ (List.foldl (firstT x) [] (rangeKs 0 x.length)).headD 0 < x.length := by
  have key : ∀ (ks l : List Int), (∀ k ∈ ks, 0 ≤ k ∧ k < x.length) → (∀ k ∈ l, 0 ≤ k ∧ k < (x.length : Int)) → ∀ k ∈ List.foldl (firstT x) l ks, 0 ≤ k ∧ k < (x.length : Int) := by
    intro ks
    induction ks with
    | nil => intro l _ hl; exact hl
    | cons a r ih =>
      intro l hk hl
      refine ih _ (fun k hk' => hk k (.tail _ hk')) ?_
      unfold firstT
      split
      · intro k hk'
        rcases List.mem_append.mp hk' with q | q
        · exact hl k q
        · rw [List.mem_singleton.mp q]; exact hk a (.head _)
      · exact hl
  have all := key (rangeKs 0 x.length) [] (fun k hk => by have := mem_rangeKs hk; omega) (fun k hk => nomatch hk)
  generalize List.foldl (firstT x) [] (rangeKs 0 x.length) = l at h all
  cases l with
  | nil => simp at h
  | cons a r => exact all a (.head _)
theorem firstT_grows (x : Str) : KPfGrows (firstT x) := by
  intro l k
  unfold firstT
  split <;> simp
theorem item0c {prog : Program} {w : World} {A : Around} {E : Value → Shared → Prop} {s : Shared} {g : Heap} {L D : Addr} {news : List (Addr × Obj)} {v : Value} {ys : List Value} {value slice : PySem.Expr} {u : Tok} {Q : Value → Shared → Prop}
    (N : News g L s.heap news) (hm : (D, LCg.lst (v :: ys)) ∈ news) (h : Q v s)
    (hs : subscripted slice false (.ref D) (.int 0 u) = operate [.ref D, .int 0 u] (getItem (.ref D) (.int 0 u)) := by with_unfolding_all rfl) :
    wpAny (model prog w) A (subscriptTail value slice (.ref D) (.int 0 u)) Q E s := by
  have hl : s.heap.IsList D (v :: ys).toArray := ⟨_, N.get hm, rfl, _, rfl⟩
  exact tail_any hl.typeIs slot_list_getitem.lookup (wpAny_getItem_list hl (by decide) (by decide) (by simp) h) hs
theorem cons_of {l : List Int} (h : decide (l = []) = false) : ∃ k r, l = k :: r := by
  cases l with
  | nil => simp at h
  | cons k r => exact ⟨k, r, rfl⟩
local macro_rules | `(tactic| walk_at "subscriptTail Name Constant ref int") => `(tactic| ((with_reducible show wpAny _ _ (subscriptTail _ _ (Value.ref _) (Value.int 0 _)) _ _ _); (refine item0c (by k_asm) (by k_mem) ?_)))
local macro_rules | `(tactic| walk_at "compareOp In int ref") => `(tactic| (refine in_range (by with_reducible assumption) ?_))
set_option maxRecDepth 100000 in
set_option maxHeartbeats 8000000 in
theorem lwhole_ct {w : World} {p : Program} {loose : List Str} {mean : ExcName → Option Value} {mg mb : Str → Option Value}
    {dp un : Nat} {gd : Option (List Code)} {cn : Str} {cs : Scope} {a : Addr} {ccd : Value} {cl : List (Str × Addr)} {outer : List Env} {A₀ : Around} {base h₀ : Heap} {L : Addr} {m : Str → Option Value} {s : Shared} {Q E : Value → Shared → Prop}
    {x : Str} {t0 t1 : Tok} {z : Bool} {n : Int} {news : List (Addr × Obj)}
    (B : Below A₀ base outer h₀) (F : Fr h₀ L s.heap m) (X : (Mine.hd.heap_1 w.params).In h₀) (N : News h₀ L s.heap news) (T : Top p loose mean mg mb h₀) (hk : cs.kind = .function)
    (hx : x.length ≤ 100) (hn0 : 4 ≤ n) (hn : n ≤ 12) (hdp : dp + 10 < recursionLimit) (hun : un ≤ 200)
    (hret : ∀ (r : Addr) (t t' : Tok) (h' : Heap) (tk' : Nat), Fr h₀ L h' m → News h₀ L h' ((r, resObj (lawWhole x z n) t t') :: news) → (∀ q ∈ news, q.1 < r) → Q (.ref r) { s with heap := h', toks := tk' }) :
    wpAny (model PySem.Challenge.rw_pf0120_01.row.prog w) (ktrTop dp un gd cn cs L a ccd cl outer) (call (.ref 225) [.str x t0, .bool z, .int n t1]) Q E s := by
  revert X; k_fill; intro X
  k_with "state" => (first
    | exact ⟨rfl, rk_start _⟩
    | exact ⟨wt_sign (r0 := r0) (by with_reducible assumption) (by with_reducible assumption) (by with_reducible assumption), rk_snoc (by with_reducible assumption) (by with_reducible assumption)⟩
    | exact ⟨wt_blank (r0 := r0) (by with_reducible assumption) (by first | exact Or.inl (by with_reducible assumption) | exact Or.inr (by with_reducible assumption)) (by with_reducible assumption) (by first | exact Or.inl (by with_reducible assumption) | exact Or.inr (by with_reducible assumption)), rk_snoc (by with_reducible assumption) (by with_reducible assumption)⟩
    | exact ⟨wt_digit (r0 := r0) (by with_reducible assumption) (by first | exact Or.inl (by with_reducible assumption) | exact Or.inr (by with_reducible assumption)) (by with_reducible assumption) (by with_reducible assumption), rk_snoc (by with_reducible assumption) (by with_reducible assumption)⟩
    | exact ⟨wt_skip (r0 := r0) (by with_reducible assumption) (by first | exact Or.inl (by with_reducible assumption) | exact Or.inr (by with_reducible assumption)) (by with_reducible assumption) (by first | exact Or.inl (by with_reducible assumption) | exact Or.inr (by with_reducible assumption)) (by with_reducible assumption), rk_snoc (by with_reducible assumption) (by with_reducible assumption)⟩
)
  refine wpAny_call ?_
  k_dflt (refine' code_defC ?k1 ?k2 ?k3 ?k4 ?k5 ?kA ?kF ?kK ?k6 ?k7 ?k8 ?k9 ?kB ?kD ?_ ?c2 ?c3 ?c4; (case kA => exact rfl); (case kF => exact rfl); (case kK => assumption); (case k1 => k_asm); (case k2 => k_asm); (case k3 => k_asm); (case k4 => k_asm); (case k5 => k_asm); (case k6 => k_is); (case k7 => k_is); (case k8 => ktr_room); (case k9 => exact BindsTo.of_eq rfl); (case kB => exact rfl); (case kD => decide +kernel); (case c2 => exact rfl); (case c3 => exact rfl); (case c4 => exact rfl); k_whole; intro g' L' h' tk' cells' FG' F' N' Y' B' X' T' l1; (try k_lt l1); k_cells Y'; (try simp only [List.cons_append, List.nil_append] at N'); (try dsimp only); (try k_lift B'); (try k_fold))
  ((fail_if_success (with_reducible show Q _ _)); first | (k_unfold; (try dsimp only)) | (with_reducible refine stripQ ?_; k_unfold; (try dsimp only)) | (k_end; wrow_close) | walk1 | (dsimp only; walk1) | (leave1; walk_say "STEP leave1"; try dsimp only))
  k_here
  k_dflt (refine LCt.Assign_ListComp_T (F₀ := by k_asm) (by rfl) (by with_unfolding_all rfl) (by with_unfolding_all rfl) (by decide) (by rfl) (by decide) (by rfl) (by rfl) (by rfl) ?_)
  iterate 13 (first | walk1 | (dsimp only; walk1))
  k_dflt (refine LCt.CompSrcT.range (n := x.length) (by rfl) (by k_asm) (by k_asm) (by with_reducible assumption) (small_one (by omega) (by omega) (by omega) (by omega)) (by rw [rangeSize_nat]; simp) (by rw [sizeLine_eq]; omega) ?_)
  intro g9
  refine kci_range (firstT x) ?_ ?_ (firstT_grows x)
  · intro k9 t9 I9 oI9 C9 oC9 D9 m9 ys9 l9 h9 tk9 E9 hlo9 hhi9 hI9 hC9 hx9 F9 N9 off9 ne9 mk9
    repeat' ((fail_if_success (with_reducible show Q _ _)); (fail_if_success (with_reducible show LCg.CompEnd _ _ _ _ _ _ _ _ _ _ _ _ _ _)); first | (k_unfold; (try dsimp only)) | (with_reducible refine stripQ ?_; k_unfold; (try dsimp only)) | (k_end; wrow_close) | walk1 | (dsimp only; walk1) | (leave1; walk_say "STEP leave1"; try dsimp only))
    · refine LCg.CompEnd.intro F9 N9 _ (fun p hp => hp) off9 trivial ?_
      exact kci_el (by unfold firstT; rw [if_pos (by with_reducible assumption)]) rfl rfl
    · refine LCg.CompEnd.intro F9 N9 _ (fun p hp => hp) off9 trivial ?_
      exact kci_no (by unfold firstT; rw [if_neg (by simp_all)]) rfl
  · repeat' ((fail_if_success (with_reducible show Q _ _)); (fail_if_success (with_reducible show wpAny _ _ (subscriptTail _ _ (Value.ref _) (Value.int 0 _)) _ _ _)); first | (k_unfold; (try dsimp only)) | (with_reducible refine stripQ ?_; k_unfold; (try dsimp only)) | (k_end; wrow_close) | walk1 | (dsimp only; walk1) | (leave1; walk_say "STEP leave1"; try dsimp only))
    · (refine' hret _ _ _ _ _ ?zf (res_i ?ze (news_top ?zn ?zs)) ?zo; (case zn => with_reducible assumption); (case zf => with_reducible assumption); (case ze => exact w_nil (by with_reducible assumption)); (case zs => (intro q hq; (first | exact hq | (simp only [List.mem_cons, List.mem_append]; simp [hq])))); (case zo => (first | with_reducible assumption | ((rename (@LT.lt Nat _ _ _ ∧ _) => hz9); (repeat (first | exact allLt_mem hz9 | exact allLt_app hz9 | replace hz9 := hz9.2))))))
    · have hb := first_bounds (x := x) (by with_reducible assumption)
      obtain ⟨k0, r0, e0⟩ := cons_of (by with_reducible assumption)
      rw [e0] at hb
      have hb1 := hb.1
      have hb2 := hb.2
      clear hb
      simp only [List.headD_cons] at hb1 hb2
      (rename IntsAre _ _ => hi9)
      rw [e0] at hi9
      cases hi9
      refine item0c (by k_asm) (by k_mem) ?_
      repeat' ((fail_if_success (with_reducible show Q _ _)); (fail_if_success (with_reducible show wpAny _ _ (pyIter _) _ _ _)); first | (k_unfold; (try dsimp only)) | (with_reducible refine stripQ ?_; k_unfold; (try dsimp only)) | (k_end; wrow_close) | walk1 | (dsimp only; walk1) | (leave1; walk_say "STEP leave1"; try dsimp only))
      k_state (fun pre a b c => wF x z k0 pre = some (a, b, c) ∧ IsRk k0 pre) "number" "many" "has_minus"
      · repeat' ((fail_if_success (with_reducible show Q _ _)); first | (k_unfold; (try dsimp only)) | (with_reducible refine stripQ ?_; k_unfold; (try dsimp only)) | (k_end; wrow_close) | walk1 | (dsimp only; walk1) | (leave1; walk_say "STEP leave1"; try dsimp only))
        all_goals (refine' hret _ _ _ _ _ ?zf (res_i ?ze (news_top ?zn ?zs)) ?zo; (case zn => with_reducible assumption); (case zf => with_reducible assumption); (case ze => exact w_out (by with_reducible assumption) (by with_reducible assumption) (by with_reducible assumption) (by with_reducible assumption) (wt_out (r0 := r0) (by with_reducible assumption) (by first | exact Or.inl (by with_reducible assumption) | exact Or.inr (by with_reducible assumption)) (by with_reducible assumption) (by first | exact Or.inl (by with_reducible assumption) | exact Or.inr (by with_reducible assumption)) (by with_reducible assumption))); (case zs => (intro q hq; (first | exact hq | (simp only [List.mem_cons, List.mem_append]; simp [hq])))); (case zo => (first | with_reducible assumption | ((rename (@LT.lt Nat _ _ _ ∧ _) => hz9); (repeat (first | exact allLt_mem hz9 | exact allLt_app hz9 | replace hz9 := hz9.2))))))
      · repeat' ((fail_if_success (with_reducible show Q _ _)); first | (k_unfold; (try dsimp only)) | (with_reducible refine stripQ ?_; k_unfold; (try dsimp only)) | (k_end; wrow_close) | walk1 | (dsimp only; walk1) | (leave1; walk_say "STEP leave1"; try dsimp only))
        · (refine' hret _ _ _ _ _ ?zf (res_i ?ze (news_top ?zn ?zs)) ?zo; (case zn => with_reducible assumption); (case zf => with_reducible assumption); (case ze => exact w_zero (by with_reducible assumption) (by with_reducible assumption) (by with_reducible assumption)); (case zs => (intro q hq; (first | exact hq | (simp only [List.mem_cons, List.mem_append]; simp [hq])))); (case zo => (first | with_reducible assumption | ((rename (@LT.lt Nat _ _ _ ∧ _) => hz9); (repeat (first | exact allLt_mem hz9 | exact allLt_app hz9 | replace hz9 := hz9.2))))))
        · (refine' hret _ _ _ _ _ ?zf (res_i ?ze (news_top ?zn ?zs)) ?zo; (case zn => with_reducible assumption); (case zf => with_reducible assumption); (case ze => exact w_told (by with_reducible assumption) (by with_reducible assumption) (by with_reducible assumption) (Or.inl ⟨by with_reducible assumption, rfl⟩) (by with_reducible assumption)); (case zs => (intro q hq; (first | exact hq | (simp only [List.mem_cons, List.mem_append]; simp [hq])))); (case zo => (first | with_reducible assumption | ((rename (@LT.lt Nat _ _ _ ∧ _) => hz9); (repeat (first | exact allLt_mem hz9 | exact allLt_app hz9 | replace hz9 := hz9.2))))))
        · (refine' hret _ _ _ _ _ ?zf (res_i ?ze (news_top ?zn ?zs)) ?zo; (case zn => with_reducible assumption); (case zf => with_reducible assumption); (case ze => exact w_far (by with_reducible assumption) (by with_reducible assumption) (by with_reducible assumption) (Or.inl ⟨by with_reducible assumption, rfl⟩) (by with_reducible assumption)); (case zs => (intro q hq; (first | exact hq | (simp only [List.mem_cons, List.mem_append]; simp [hq])))); (case zo => (first | with_reducible assumption | ((rename (@LT.lt Nat _ _ _ ∧ _) => hz9); (repeat (first | exact allLt_mem hz9 | exact allLt_app hz9 | replace hz9 := hz9.2))))))
        · (refine' hret _ _ _ _ _ ?zf (res_i ?ze (news_top ?zn ?zs)) ?zo; (case zn => with_reducible assumption); (case zf => with_reducible assumption); (case ze => exact w_told (by with_reducible assumption) (by with_reducible assumption) (by with_reducible assumption) (Or.inr ⟨by with_reducible assumption, rfl⟩) (by with_reducible assumption)); (case zs => (intro q hq; (first | exact hq | (simp only [List.mem_cons, List.mem_append]; simp [hq])))); (case zo => (first | with_reducible assumption | ((rename (@LT.lt Nat _ _ _ ∧ _) => hz9); (repeat (first | exact allLt_mem hz9 | exact allLt_app hz9 | replace hz9 := hz9.2))))))
        · (refine' hret _ _ _ _ _ ?zf (res_i ?ze (news_top ?zn ?zs)) ?zo; (case zn => with_reducible assumption); (case zf => with_reducible assumption); (case ze => exact w_far (by with_reducible assumption) (by with_reducible assumption) (by with_reducible assumption) (Or.inr ⟨by with_reducible assumption, rfl⟩) (by with_reducible assumption)); (case zs => (intro q hq; (first | exact hq | (simp only [List.mem_cons, List.mem_append]; simp [hq])))); (case zo => (first | with_reducible assumption | ((rename (@LT.lt Nat _ _ _ ∧ _) => hz9); (repeat (first | exact allLt_mem hz9 | exact allLt_app hz9 | replace hz9 := hz9.2))))))
end Mine
end
section
namespace Mine
section
variable {prog : Program} {w : World} {A : Around} {E : Value → Shared → Prop} {s : Shared}
theorem ne_res {h₀ : Heap} {L r1 r2 : Addr} {news : List (Addr × Obj)} {R R' : Res} {t t' u u' : Tok} {Q : Value → Shared → Prop} (N : News h₀ L s.heap news) (h1 : (r1, resObj R t t') ∈ news) (h2 : (r2, resObj R' u u') ∈ news) (e : R = R') (hu : A.units < cLine)
    (h : Q (.bool false) s) : wpAny (model prog w) A (compareOp .NotEq (.ref r1) (.ref r2)) Q E s := by
  subst e
  have hl : s.heap.IsTuple r1 #[.str R.tag t, R.v.val t'] := ⟨_, (N _ h1).1, rfl, _, rfl⟩
  have hb : s.heap.IsTuple r2 #[.str R.tag u, R.v.val u'] := ⟨_, (N _ h2).1, rfl, _, rfl⟩
  refine SeqAt.RcNeAt.tuples (e := fun _ => true) hl hb hu (fun j j1 j2 => ?_) prog w E Q (show Q (.bool false) s from h)
  have hj : j = 0 ∨ j = 1 := by simp at j1; omega
  rcases hj with rfl | rfl
  · have := (MeetsSeq.EqGives.at (eqGives_str R.tag R.tag t u) A.in1 s)
    rw [beq_self_eq_true] at this
    exact this
  · show SeqAt.EqAt A.in1 s (R.v.val t') (R.v.val u') true
    cases R.v with
    | i n =>
      have := (MeetsSeq.EqGives.at (MeetsSeq.EqGives.int n n t' u') A.in1 s)
      rw [beq_self_eq_true] at this
      exact this
    | b x => exact SeqAt.EqAt.same _
    | s x =>
      have := (MeetsSeq.EqGives.at (eqGives_str x x t' u') A.in1 s)
      rw [beq_self_eq_true] at this
      exact this
end
theorem upd_pick {h₀ h : Heap} {L d D : Addr} {o c : Obj} {pre post : List (Addr × Obj)} (N : News h₀ L h (pre ++ (d, o) :: post)) (hm : (D, c) ∈ pre ++ post) : News h₀ L h ((d, o) :: (D, c) :: (pre ++ post)) := fun q hq => by
  refine N q ?_
  simp only [List.mem_cons, List.mem_append] at hq hm ⊢
  rcases hq with rfl | rfl | hq
  · simp
  · rcases hm with h | h
    · exact .inl h
    · exact .inr (.inr h)
  · rcases hq with h | h
    · exact .inl h
    · exact .inr (.inr h)
theorem upd_back {h₀ h : Heap} {L d D : Addr} {o c : Obj} {pre post : List (Addr × Obj)} (N : News h₀ L h ((d, o) :: (D, c) :: (pre ++ post))) : News h₀ L h (pre ++ (d, o) :: post) := fun q hq => by
  refine N q ?_
  simp only [List.mem_cons, List.mem_append] at hq ⊢
  rcases hq with h | rfl | h
  · exact .inr (.inr (.inl h))
  · exact .inl rfl
  · exact .inr (.inr (.inr h))
theorem upd_mem {d D : Addr} {o c : Obj} {pre post : List (Addr × Obj)} (h : (D, c) ∈ pre ++ (d, o) :: post) (hne : D ≠ d) : (D, c) ∈ pre ++ post := by
  simp only [List.mem_cons, List.mem_append] at h ⊢
  rcases h with h | h | h
  · exact .inl h
  · exact absurd (Prod.mk.inj h).1 hne
  · exact .inr h
section
variable {w : World} {p : Program} {loose : List Str} {mean : ExcName → Option Value} {mg mb : Str → Option Value}
    {dp un : Nat} {gd : Option (List Code)} {cn : Str} {cs : Scope} {a : Addr} {ccd : Value} {cl : List (Str × Addr)} {outer : List Env} {A₀ : Around} {base h₀ : Heap} {L : Addr} {m : Str → Option Value} {s : Shared} {Q E : Value → Shared → Prop}
    {d D : Addr} {o : Obj} {vs : List Value} {ns : List Int} {k : Int} {t2 : Tok} {news : List (Addr × Obj)} {g : Obj → List (Addr × Obj)}
theorem card_u (B : Below A₀ base outer h₀) (F : Fr h₀ L s.heap m) (X : (Mine.hd.heap_1 w.params).In h₀) (N : News h₀ L s.heap news) (T : Top p loose mean mg mb h₀) (hk : cs.kind = .function)
    (U : UpdF d o news g) (hm : (D, PySem.W.listOf vs.toArray 0) ∈ news) (hd : IsCup w o D 0 0 t2 k) (hI : IntsAre vs ns) (hn : ns.length ≤ 63) (h1 : D ≠ d) (hk0 : 0 ≤ k) (hk1 : k ≤ 10000) (hdp : dp + 10 < recursionLimit) (hun : un ≤ 200)
    (hret : ∀ (x : Str) (t : Tok) (o' : Obj) (t2' : Tok) (k' : Int) (h' : Heap) (tk' : Nat), Alpha x → x.length ≤ 9 → k ≤ k' → k' ≤ k + 20 → IsCup w o' D 0 0 t2' k' → Fr h₀ L h' m → News h₀ L h' (g o') → Q (.str x t) { s with heap := h', toks := tk' }) :
    wpAny (model PySem.Challenge.rw_pf0120_01.row.prog w) (ktrTop dp un gd cn cs L a ccd cl outer) (call (.ref 220) [.ref d]) Q E s := by
  obtain ⟨pre, post, rfl, hg, n1, n2⟩ := U.split
  refine card_ct (rest := pre ++ post) B F X (upd_pick N (upd_mem hm h1)) T hk hd hI hn h1 (fun q hq => ?_) hk0 hk1 hdp hun fun x t o' t2' k' h' tk' a1 a2 a3 a4 a5 F' N' => hret x t o' t2' k' h' tk' a1 a2 a3 a4 a5 F' ?_
  · rcases List.mem_append.mp hq with h | h
    · exact n1 q h
    · exact n2 q h
  · rw [hg]; exact upd_back N'
theorem shake_u {sides : Int} {t3 : Tok} (B : Below A₀ base outer h₀) (F : Fr h₀ L s.heap m) (X : (Mine.hd.heap_1 w.params).In h₀) (N : News h₀ L s.heap news) (T : Top p loose mean mg mb h₀) (hk : cs.kind = .function)
    (U : UpdF d o news g) (hm : (D, PySem.W.listOf vs.toArray 0) ∈ news) (hd : IsCup w o D 0 0 t2 k) (hI : IntsAre vs ns) (hn : ns.length ≤ 63) (h1 : D ≠ d) (hk0 : 0 ≤ k) (hk1 : k ≤ 10000) (hs0 : 1 ≤ sides) (hs1 : sides ≤ 100) (hdp : dp + 10 < recursionLimit) (hun : un ≤ 200)
    (hret : ∀ (r : Int) (t t' : Tok) (o' : Obj) (h' : Heap) (tk' : Nat), 0 ≤ r → r < sides → IsCup w o' D 0 0 t' (k + 1) → Fr h₀ L h' m → News h₀ L h' (g o') → Q (.int r t) { s with heap := h', toks := tk' }) :
    wpAny (model PySem.Challenge.rw_pf0120_01.row.prog w) (ktrTop dp un gd cn cs L a ccd cl outer) (call (.ref 215) [.ref d, .int sides t3]) Q E s := by
  obtain ⟨pre, post, rfl, hg, n1, n2⟩ := U.split
  refine shake_ct (t0 := 0) (t1 := 0) (rest := pre ++ post) B F X (upd_pick N (upd_mem hm h1)) T hk hd hI hn h1 (fun q hq => ?_) hk0 (by omega) hs0 hs1 (by omega) (by rw [cLine_is]; omega) fun r t t' o' h' tk' a1 a2 a3 F' N' => hret r t t' o' h' tk' a1 a2 a3 F' ?_
  · rcases List.mem_append.mp hq with h | h
    · exact n1 q h
    · exact n2 q h
  · rw [hg]; exact upd_back N'
end
section
variable {prog : Program} {w : World} {A : Around} {E : Value → Shared → Prop} {s : Shared} {env : Env} {h₀ : Heap} {x : Str} {body : List Stmt} {Q : Flow → Shared → Prop}
theorem rest_rule {I : Addr} {a : Int} {n : Nat} (P : Nat → (Str → Option Value) → List (Addr × Obj) → Prop)
    (step : ∀ i m news, i < n → P i m news → ∀ t h tk, Fr h₀ env.locals h (fun y => if y = x then some (.int (a + (i : Int)) t) else m y) →
      News h₀ env.locals h ((I, itR (a + ((i + 1 : Nat) : Int)) ((n : Int) - ((i + 1 : Nat) : Int))) :: news) →
      wpAny (model prog w) A (execs body env) (UnrPost h₀ env.locals { s with heap := h, toks := tk } I (itR (a + ((i + 1 : Nat) : Int)) ((n : Int) - ((i + 1 : Nat) : Int))) (P (i + 1)) Q) E { s with heap := h, toks := tk })
    (fin : ∀ m news, P n m news → ∀ h tk, Fr h₀ env.locals h m → News h₀ env.locals h news → Q .next { s with heap := h, toks := tk }) :
    ∀ k i m news, i + k = n → P i m news → RangeRest prog w A E h₀ env x body Q s I a n k i m news := by
  intro k
  induction k with
  | zero =>
    intro i m news e hP
    have : i = n := by omega
    subst this
    exact RangeRest.zero (fin m news hP)
  | succ k ih =>
    intro i m news e hP
    refine RangeRest.succ fun t h tk F N => wpAny_mono (step i m news (by omega) hP t h tk F N) (fun f s₂ hq => ?_) fun _ _ e => e
    have go : UnrEnd h₀ env.locals { s with heap := h, toks := tk } I (itR (a + ((i + 1 : Nat) : Int)) ((n : Int) - ((i + 1 : Nat) : Int))) (P (i + 1)) s₂ →
        UnrEnd h₀ env.locals { s with heap := h, toks := tk } I (itR (a + ((i + 1 : Nat) : Int)) ((n : Int) - ((i + 1 : Nat) : Int))) (RangeRest prog w A E h₀ env x body Q s I a n k (i + 1)) s₂ := by
      rintro ⟨h', tk', m', news', e', F', N', off, r⟩
      exact ⟨h', tk', m', news', e', F', N', off, ih (i + 1) m' news' (by omega) r⟩
    cases f with
    | ret v => exact hq
    | brk => exact hq
    | next => exact go hq
    | cont => exact go hq
end
theorem heard_res {w : World} {p : Program} {loose : List Str} {mean : ExcName → Option Value} {mg mb : Str → Option Value} {base : Heap}
    {dp un : Nat} {gd : Option (List Code)} {cn : Str} {cs : Scope} {a : Addr} {ccd : Value} {cl : List (Str × Addr)} {A₀ : Around} {h₀ : Heap} {L : Addr} {m : Str → Option Value} {s : Shared} {Q E : Value → Shared → Prop}
    {lam : Addr} {R : Res} {news : List (Addr × Obj)}
    (B : Below A₀ base [] h₀) (F : Fr h₀ L s.heap m) (X : (Mine.hd.heap_1 w.params).In h₀) (N : News h₀ L s.heap news) (T : Top p loose mean mg mb h₀) (hk : cs.kind = .function)
    (hfn : ∀ {h₀ h : Heap} {L : Addr}, News h₀ L h news → FnAt lam h) (hask : Asks w p loose mean mg mb base lam news (fun v => R = ⟨told, v⟩) (fun c => R = ⟨code, .i c⟩) (dp + 1) (un + 3)) (hdp : dp + 40 < recursionLimit) (hun : un ≤ 40)
    (hret : ∀ (r : Addr) (t t' : Tok) (h' : Heap) (tk' : Nat), Fr h₀ L h' m → News h₀ L h' ((r, resObj R t t') :: news) → (∀ q ∈ news, q.1 < r) → Q (.ref r) { s with heap := h', toks := tk' }) :
    wpAny (model PySem.Challenge.rw_pf0120_01.row.prog w) (ktrTop dp un gd cn cs L a ccd cl []) (call (.ref 246) [.ref lam]) Q E s := by
  refine heard_ct B F X N T hk hfn hask hdp hun fun r R' t t' h' tk' h1 h2 F' N' l => ?_
  have e := heard_is h1 h2
  subst e
  exact hret r t t' h' tk' F' N' l
end Mine
namespace Mine
theorem truth_cases (x : Str) : (∃ b, lawTruth x = ⟨told, .b b⟩) ∨ lawTruth x = ⟨code, .i 1⟩ := by
  unfold lawTruth
  split
  · exact .inl ⟨_, rfl⟩
  · exact .inr rfl
theorem mono_tok {M : Model} {A : Around} {x : Sem Bool} {Q : Bool → Shared → Prop} {E : Value → Shared → Prop} {s : Shared} (h : wpAny M A x (fun b s' => b = false ∧ ∃ tk, s' = { s with toks := tk }) E s) (k : ∀ tk, Q false { s with toks := tk }) : wpAny M A x Q E s :=
  wpAny_mono h (fun b s' hb => by obtain ⟨rfl, tk, rfl⟩ := hb; exact k tk) fun _ _ e => e
end Mine
namespace Mine
def keepBy {α : Type} : List Bool → List α → List α
  | true :: m, a :: l => a :: keepBy m l
  | false :: m, _ :: l => keepBy m l
  | [], l => l
  | _ :: _, [] => []
theorem keepBy_sub {α : Type} : ∀ (m : List Bool) (l : List α), ∀ q ∈ keepBy m l, q ∈ l := by
  intro m
  induction m with
  | nil => intro l q hq; cases l <;> exact hq
  | cons b m ih =>
    intro l q hq
    cases l with
    | nil => cases b <;> exact hq
    | cons a l =>
      cases b with
      | true =>
        rcases List.mem_cons.mp hq with rfl | hq
        · exact .head _
        · exact .tail _ (ih l q hq)
      | false => exact .tail _ (ih l q hq)
theorem news_keep {h₀ h : Heap} {L : Addr} {l : List (Addr × Obj)} (m : List Bool) (N : News h₀ L h l) : News h₀ L h (keepBy m l) := fun q hq => N q (keepBy_sub m l q hq)
theorem allLt_hd {d : Addr} {a : Addr × Obj} {l : List (Addr × Obj)} (h : ∀ p ∈ a :: l, p.1 < d) : @LT.lt Nat _ a.1 d := h a (.head _)
end Mine
namespace Mine
theorem mem_last {α : Type} {l : List α} {a : α} (h : l.getLast? = some a) : a ∈ l := List.mem_of_getLast? h
theorem unr_end {h₀ : Heap} {L I : Addr} {it : Obj} {rest : (Str → Option Value) → List (Addr × Obj) → Prop} {s₁ : Shared} {h' : Heap} {tk : Nat} {m' : Str → Option Value} {all : List (Addr × Obj)} (mask : List Bool) (F : Fr h₀ L h' m') (N : News h₀ L h' all)
    (hI : (I, it) ∈ all) (off : ∀ p ∈ keepBy mask all, p.1 ≠ I) (r : rest m' (keepBy mask all)) : UnrEnd h₀ L s₁ I it rest { s₁ with heap := h', toks := tk } :=
  UnrEnd.intro F N (keepBy mask all) (fun p hp => by
    rcases List.mem_cons.mp hp with rfl | hp
    · exact hI
    · exact keepBy_sub mask all p hp) off r
section
variable {prog : Program} {w : World} {A : Around} {E : Value → Shared → Prop} {s : Shared} {env : Env} {h₀ : Heap} {x : Str} {body : List Stmt} {Q : Flow → Shared → Prop}
theorem rest_rule2 {I : Addr} {a : Int} {n : Nat} {m₀ : Str → Option Value} {news₀ : List (Addr × Obj)} (P : Nat → (Str → Option Value) → List (Addr × Obj) → Prop)
    (t0 : ∀ t h tk, Fr h₀ env.locals h (fun y => if y = x then some (.int (a + ((0 : Nat) : Int)) t) else m₀ y) →
      News h₀ env.locals h ((I, itR (a + ((0 + 1 : Nat) : Int)) (((n + 1 : Nat) : Int) - ((0 + 1 : Nat) : Int))) :: news₀) →
      wpAny (model prog w) A (execs body env) (UnrPost h₀ env.locals { s with heap := h, toks := tk } I (itR (a + ((0 + 1 : Nat) : Int)) (((n + 1 : Nat) : Int) - ((0 + 1 : Nat) : Int))) (P 1) Q) E { s with heap := h, toks := tk })
    (t1 : ∀ i m news, 1 ≤ i → i < n + 1 → P i m news → ∀ t h tk, Fr h₀ env.locals h (fun y => if y = x then some (.int (a + (i : Int)) t) else m y) →
      News h₀ env.locals h ((I, itR (a + ((i + 1 : Nat) : Int)) (((n + 1 : Nat) : Int) - ((i + 1 : Nat) : Int))) :: news) →
      wpAny (model prog w) A (execs body env) (UnrPost h₀ env.locals { s with heap := h, toks := tk } I (itR (a + ((i + 1 : Nat) : Int)) (((n + 1 : Nat) : Int) - ((i + 1 : Nat) : Int))) (P (i + 1)) Q) E { s with heap := h, toks := tk })
    (fin : ∀ m news, P (n + 1) m news → ∀ h tk, Fr h₀ env.locals h m → News h₀ env.locals h news → Q .next { s with heap := h, toks := tk }) :
    RangeRest prog w A E h₀ env x body Q s I a (n + 1) (n + 1) 0 m₀ news₀ := by
  refine rest_rule (fun i m news => if i = 0 then m = m₀ ∧ news = news₀ else P i m news) ?_ ?_ (n + 1) 0 m₀ news₀ (by omega) (by rw [if_pos rfl]; exact ⟨rfl, rfl⟩)
  · intro i m news hi hP t h tk F N
    by_cases h0 : i = 0
    · subst h0
      rw [if_pos rfl] at hP
      obtain ⟨rfl, rfl⟩ := hP
      exact t0 t h tk F N
    · rw [if_neg h0] at hP
      exact t1 i m news (by omega) hi hP t h tk F N
  · intro m news hP h tk F N
    rw [if_neg (by omega)] at hP
    exact fin m news hP h tk F N
end
theorem cup_map {m : Str → Option Value} {x : Str} {v : Value} (h : m x = some v) : m = fun y => if y = x then some v else m y := by
  funext y
  by_cases e : y = x
  · rw [if_pos e, e, h]
  · rw [if_neg e]
abbrev lamTab (c1 c2 c3 c4 : Addr) : Array Value := #[] ++ #[rawInt ((229 : Nat) : Int), rawInt ((22 : Nat) : Int), Value.ref c1] ++ #[rawInt ((231 : Nat) : Int), rawInt ((27 : Nat) : Int), Value.ref c2] ++ #[rawInt ((234 : Nat) : Int), rawInt ((22 : Nat) : Int), Value.ref c3] ++ #[rawInt ((237 : Nat) : Int), rawInt ((26 : Nat) : Int), Value.ref c4]
abbrev lamQ : Str := Str.ofString "law" ++ Str.ofString ".<locals>." ++ Str.ofString "<lambda>"
def IsCode (o : Obj) : Prop := ∃ (vs : Array Value) (t : Tok), o.data = .fields vs ∧ vs[1]? = some (.str lamQ t)
/-- how a turn of the law's loop leaves the state -/
inductive Ready (w : World) (L I D d : Addr) (vs : List Value) (i : Nat) : (Str → Option Value) → List (Addr × Obj) → Prop
  | mk (m' : Str → Option Value) (o : Obj) (k : Int) (t2 : Tok) (w1 w2 w3 w4 w5 w6 w7 : Obj) (v1 v2 v3 v4 v5 v6 v7 : Option Value) (c1 c2 c3 c4 : Addr) (b1 b2 b3 b4 : Obj) (z1 z2 z3 z4 : Array Value) (y1 y2 y3 y4 : Tok) (hcup : IsCup w o D 0 0 t2 k) (hk0 : 0 ≤ k) (hk1 : k ≤ 24 * ((i : Nat) : Int)) (d1 : w1.data = .cell v1) (d2 : w2.data = .cell v2) (d3 : w3.data = .cell v3) (d4 : w4.data = .cell v4) (d5 : w5.data = .cell v5) (d6 : w6.data = .cell v6) (d7 : w7.data = .cell v7) (e1 : b1.data = .fields z1) (f1 : z1[1]? = some (.str lamQ y1)) (e2 : b2.data = .fields z2) (f2 : z2[1]? = some (.str lamQ y2)) (e3 : b3.data = .fields z3) (f3 : z3[1]? = some (.str lamQ y3)) (e4 : b4.data = .fields z4) (f4 : z4[1]? = some (.str lamQ y4)) (l1 : @LT.lt Nat _ I c1) (l2 : @LT.lt Nat _ c1 c2) (l3 : @LT.lt Nat _ c2 c3) (l4 : @LT.lt Nat _ c3 c4) : Ready w L I D d vs i (fun y => if y = Str.ofString "cup" then some (.ref d) else m' y) [(c4, b4), (c3, b3), (c2, b2), (c1, b1), (D, PySem.W.listOf vs.toArray 0), (d, o), (L + 1 + 1 + 1 + 1 + 1 + 1 + 1, w7), (L + 1 + 1 + 1 + 1 + 1 + 1, w6), (L + 1 + 1 + 1 + 1 + 1, w5), (L + 1 + 1 + 1 + 1, w4), (L + 1 + 1 + 1, w3), (L + 1 + 1, w2), (L + 1, w1), (248, tabObj (lamTab c1 c2 c3 c4))]
theorem Ready.intro {w : World} {L I D d : Addr} {vs : List Value} {i : Nat} {m : Str → Option Value} {news : List (Addr × Obj)} {m' : Str → Option Value} {o : Obj} {k : Int} {t2 : Tok} {w1 w2 w3 w4 w5 w6 w7 : Obj} {v1 v2 v3 v4 v5 v6 v7 : Option Value} {c1 c2 c3 c4 : Addr} {b1 b2 b3 b4 : Obj} {z1 z2 z3 z4 : Array Value} {y1 y2 y3 y4 : Tok}
    (hm : m = (fun y => if y = Str.ofString "cup" then some (.ref d) else m' y)) (hn : news = [(c4, b4), (c3, b3), (c2, b2), (c1, b1), (D, PySem.W.listOf vs.toArray 0), (d, o), (L + 1 + 1 + 1 + 1 + 1 + 1 + 1, w7), (L + 1 + 1 + 1 + 1 + 1 + 1, w6), (L + 1 + 1 + 1 + 1 + 1, w5), (L + 1 + 1 + 1 + 1, w4), (L + 1 + 1 + 1, w3), (L + 1 + 1, w2), (L + 1, w1), (248, tabObj (lamTab c1 c2 c3 c4))]) (hcup : IsCup w o D 0 0 t2 k) (hk0 : 0 ≤ k) (hk1 : k ≤ 24 * ((i : Nat) : Int)) (d1 : w1.data = .cell v1) (d2 : w2.data = .cell v2) (d3 : w3.data = .cell v3) (d4 : w4.data = .cell v4) (d5 : w5.data = .cell v5) (d6 : w6.data = .cell v6) (d7 : w7.data = .cell v7) (e1 : b1.data = .fields z1) (f1 : z1[1]? = some (.str lamQ y1)) (e2 : b2.data = .fields z2) (f2 : z2[1]? = some (.str lamQ y2)) (e3 : b3.data = .fields z3) (f3 : z3[1]? = some (.str lamQ y3)) (e4 : b4.data = .fields z4) (f4 : z4[1]? = some (.str lamQ y4)) (l1 : @LT.lt Nat _ I c1) (l2 : @LT.lt Nat _ c1 c2) (l3 : @LT.lt Nat _ c2 c3) (l4 : @LT.lt Nat _ c3 c4) : Ready w L I D d vs i m news := by
  subst hm
  subst hn
  exact Ready.mk m' o k t2 w1 w2 w3 w4 w5 w6 w7 v1 v2 v3 v4 v5 v6 v7 c1 c2 c3 c4 b1 b2 b3 b4 z1 z2 z3 z4 y1 y2 y3 y4 hcup hk0 hk1 d1 d2 d3 d4 d5 d6 d7 e1 f1 e2 f2 e3 f3 e4 f4 l1 l2 l3 l4
end Mine
namespace Mine
theorem news_down {h₀ h : Heap} {L : Addr} {i a b c d : Addr × Obj} {l : List (Addr × Obj)} (N : News h₀ L h (i :: a :: b :: c :: d :: l)) : News h₀ L h (a :: b :: c :: d :: i :: l) := fun q hq => N q (by
  simp only [List.mem_cons] at hq ⊢
  rcases hq with h | h | h | h | h | h <;> simp [h])
end Mine
namespace Mine
section
variable {prog : Program} {w : World} {A : Around} {E : Value → Shared → Prop} {s : Shared} {env : Env} {h₀ : Heap} {x : Str} {body : List Stmt} {Q : Flow → Shared → Prop}
theorem rest_rule3 {I : Addr} {a : Int} {n : Nat} {m₀ : Str → Option Value} {news₀ : List (Addr × Obj)} {D d L : Addr} {o : Obj} {t2 : Tok} {vs : List Value} {ns : List Int}
    (hd : IsCup w o D 0 0 t2 0) (hm : (d, o) ∈ news₀) (hI : IntsAre vs ns) {w1 : Obj} (hc : news₀.reverse[1]? = some (L + 1, w1)) (hL : env.locals = L) (hDd : D ≠ d) (hpo : PassesOwn (model prog w) A env E)
    (t0 : D ≠ d → ∀ (Q : Flow → Shared → Prop) (E : Value → Shared → Prop) (s : Shared), PassesOwn (model prog w) A env E → ∀ t h tk, Fr h₀ env.locals h (fun y => if y = x then some (.int (a + ((0 : Nat) : Int)) t) else m₀ y) →
      News h₀ env.locals h ((I, itR (a + ((0 + 1 : Nat) : Int)) (((n + 1 : Nat) : Int) - ((0 + 1 : Nat) : Int))) :: news₀) →
      wpAny (model prog w) A (execs body env) (UnrPost h₀ env.locals { s with heap := h, toks := tk } I (itR (a + ((0 + 1 : Nat) : Int)) (((n + 1 : Nat) : Int) - ((0 + 1 : Nat) : Int))) (Ready w L I D d vs 1) Q) E { s with heap := h, toks := tk })
    (t1 : D ≠ d → ∀ (Q : Flow → Shared → Prop) (E : Value → Shared → Prop) (s : Shared) (_hpo : PassesOwn (model prog w) A env E) (i : Nat) (m' : Str → Option Value) (o : Obj) (k : Int) (t2 : Tok) (w1 w2 w3 w4 w5 w6 w7 : Obj) (v1 v2 v3 v4 v5 v6 v7 : Option Value) (c1 c2 c3 c4 : Addr) (b1 b2 b3 b4 : Obj) (z1 z2 z3 z4 : Array Value) (y1 y2 y3 y4 : Tok) (hi : 1 ≤ i) (hj : i < n + 1) (hcup : IsCup w o D 0 0 t2 k) (hk0 : 0 ≤ k) (hk1 : k ≤ 24 * ((i : Nat) : Int)) (d1 : w1.data = .cell v1) (d2 : w2.data = .cell v2) (d3 : w3.data = .cell v3) (d4 : w4.data = .cell v4) (d5 : w5.data = .cell v5) (d6 : w6.data = .cell v6) (d7 : w7.data = .cell v7) (e1 : b1.data = .fields z1) (f1 : z1[1]? = some (.str lamQ y1)) (e2 : b2.data = .fields z2) (f2 : z2[1]? = some (.str lamQ y2)) (e3 : b3.data = .fields z3) (f3 : z3[1]? = some (.str lamQ y3)) (e4 : b4.data = .fields z4) (f4 : z4[1]? = some (.str lamQ y4)) (l1 : @LT.lt Nat _ I c1) (l2 : @LT.lt Nat _ c1 c2) (l3 : @LT.lt Nat _ c2 c3) (l4 : @LT.lt Nat _ c3 c4) t h tk, Fr h₀ env.locals h (fun y => if y = x then some (.int (a + (i : Int)) t) else if y = Str.ofString "cup" then some (.ref d) else m' y) →
      News h₀ env.locals h [(c4, b4), (c3, b3), (c2, b2), (c1, b1), (I, itR (a + ((i + 1 : Nat) : Int)) (((n + 1 : Nat) : Int) - ((i + 1 : Nat) : Int))), (D, PySem.W.listOf vs.toArray 0), (d, o), (L + 1 + 1 + 1 + 1 + 1 + 1 + 1, w7), (L + 1 + 1 + 1 + 1 + 1 + 1, w6), (L + 1 + 1 + 1 + 1 + 1, w5), (L + 1 + 1 + 1 + 1, w4), (L + 1 + 1 + 1, w3), (L + 1 + 1, w2), (L + 1, w1), (248, tabObj (lamTab c1 c2 c3 c4))] →
      wpAny (model prog w) A (execs body env) (UnrPost h₀ env.locals { s with heap := h, toks := tk } I (itR (a + ((i + 1 : Nat) : Int)) (((n + 1 : Nat) : Int) - ((i + 1 : Nat) : Int))) (Ready w L I D d vs (i + 1)) Q) E { s with heap := h, toks := tk })
    (fin : ∀ (m' : Str → Option Value) (o : Obj) (k : Int) (t2 : Tok) (w1 w2 w3 w4 w5 w6 w7 : Obj) (v1 v2 v3 v4 v5 v6 v7 : Option Value) (c1 c2 c3 c4 : Addr) (b1 b2 b3 b4 : Obj) (z1 z2 z3 z4 : Array Value) (y1 y2 y3 y4 : Tok) (hcup : IsCup w o D 0 0 t2 k) (hk0 : 0 ≤ k) (hk1 : k ≤ 24 * ((n + 1 : Nat) : Int)) (d1 : w1.data = .cell v1) (d2 : w2.data = .cell v2) (d3 : w3.data = .cell v3) (d4 : w4.data = .cell v4) (d5 : w5.data = .cell v5) (d6 : w6.data = .cell v6) (d7 : w7.data = .cell v7) (e1 : b1.data = .fields z1) (f1 : z1[1]? = some (.str lamQ y1)) (e2 : b2.data = .fields z2) (f2 : z2[1]? = some (.str lamQ y2)) (e3 : b3.data = .fields z3) (f3 : z3[1]? = some (.str lamQ y3)) (e4 : b4.data = .fields z4) (f4 : z4[1]? = some (.str lamQ y4)) (l1 : @LT.lt Nat _ I c1) (l2 : @LT.lt Nat _ c1 c2) (l3 : @LT.lt Nat _ c2 c3) (l4 : @LT.lt Nat _ c3 c4) h tk, Fr h₀ env.locals h (fun y => if y = Str.ofString "cup" then some (.ref d) else m' y) → News h₀ env.locals h [(c4, b4), (c3, b3), (c2, b2), (c1, b1), (D, PySem.W.listOf vs.toArray 0), (d, o), (L + 1 + 1 + 1 + 1 + 1 + 1 + 1, w7), (L + 1 + 1 + 1 + 1 + 1 + 1, w6), (L + 1 + 1 + 1 + 1 + 1, w5), (L + 1 + 1 + 1 + 1, w4), (L + 1 + 1 + 1, w3), (L + 1 + 1, w2), (L + 1, w1), (248, tabObj (lamTab c1 c2 c3 c4))] → Q .next { s with heap := h, toks := tk }) :
    RangeRest prog w A E h₀ env x body Q s I a (n + 1) (n + 1) 0 m₀ news₀ := by
  refine rest_rule2 (Ready w L I D d vs) (fun t h tk F N => t0 hDd Q E s hpo t h tk F N) ?_ ?_
  · intro i m news hi hj hP
    cases hP with
    | mk m' o k t2 w1 w2 w3 w4 w5 w6 w7 v1 v2 v3 v4 v5 v6 v7 c1 c2 c3 c4 b1 b2 b3 b4 z1 z2 z3 z4 y1 y2 y3 y4 hcup hk0 hk1 d1 d2 d3 d4 d5 d6 d7 e1 f1 e2 f2 e3 f3 e4 f4 l1 l2 l3 l4 => exact fun t h tk F N => t1 hDd Q E s hpo i m' o k t2 w1 w2 w3 w4 w5 w6 w7 v1 v2 v3 v4 v5 v6 v7 c1 c2 c3 c4 b1 b2 b3 b4 z1 z2 z3 z4 y1 y2 y3 y4 hi hj hcup hk0 hk1 d1 d2 d3 d4 d5 d6 d7 e1 f1 e2 f2 e3 f3 e4 f4 l1 l2 l3 l4 t h tk F (news_down N)
  · intro m news hP
    cases hP with
    | mk m' o k t2 w1 w2 w3 w4 w5 w6 w7 v1 v2 v3 v4 v5 v6 v7 c1 c2 c3 c4 b1 b2 b3 b4 z1 z2 z3 z4 y1 y2 y3 y4 hcup hk0 hk1 d1 d2 d3 d4 d5 d6 d7 e1 f1 e2 f2 e3 f3 e4 f4 l1 l2 l3 l4 => exact fun h tk F N => fin m' o k t2 w1 w2 w3 w4 w5 w6 w7 v1 v2 v3 v4 v5 v6 v7 c1 c2 c3 c4 b1 b2 b3 b4 z1 z2 z3 z4 y1 y2 y3 y4 hcup hk0 hk1 d1 d2 d3 d4 d5 d6 d7 e1 f1 e2 f2 e3 f3 e4 f4 l1 l2 l3 l4 h tk F N
end
end Mine
namespace Mine
theorem tab_ok (c1 c2 c3 c4 : Addr) : TriplesOk (lamTab c1 c2 c3 c4).toList := by simp [lamTab, TriplesOk, rawInt]
theorem hit1 (c1 c2 c3 c4 : Addr) (a b : Nat) : codeAmong ⟨229, 22, a, b⟩ (lamTab c1 c2 c3 c4).toList = some (.ref c1) := by simp [codeAmong, lamTab, rawInt]
theorem hit2 (c1 c2 c3 c4 : Addr) (a b : Nat) : codeAmong ⟨231, 27, a, b⟩ (lamTab c1 c2 c3 c4).toList = some (.ref c2) := by simp [codeAmong, lamTab, rawInt]
theorem hit3 (c1 c2 c3 c4 : Addr) (a b : Nat) : codeAmong ⟨234, 22, a, b⟩ (lamTab c1 c2 c3 c4).toList = some (.ref c3) := by simp [codeAmong, lamTab, rawInt]
theorem hit4 (c1 c2 c3 c4 : Addr) (a b : Nat) : codeAmong ⟨237, 26, a, b⟩ (lamTab c1 c2 c3 c4).toList = some (.ref c4) := by simp [codeAmong, lamTab, rawInt]
end Mine
namespace Mine
/-- the ledger's addresses, no two alike -/
structure ND (l : List Nat) : Prop where
  p : l.Nodup
def Down : List Nat → Prop
  | a :: b :: r => b < a ∧ Down (b :: r)
  | _ => True
theorem down_lt : ∀ (l : List Nat) (a : Nat), Down (a :: l) → ∀ q ∈ l, q < a := by
  intro l
  induction l with
  | nil => intro a _ q hq; exact absurd hq List.not_mem_nil
  | cons b r ih =>
    intro a h q hq
    rcases List.mem_cons.mp hq with e | hq
    · rw [e]; exact h.1
    · exact Nat.lt_trans (ih b h.2 q hq) h.1
theorem nd_down : ∀ (l : List Nat), Down l → ND l := by
  intro l
  induction l with
  | nil => intro _; exact ⟨List.nodup_nil⟩
  | cons a r ih =>
    intro h
    have hr : Down r := by
      cases r with
      | nil => exact trivial
      | cons b r => exact h.2
    exact ⟨List.nodup_cons.mpr ⟨fun hm => Nat.lt_irrefl _ (down_lt r a h a hm), (ih hr).p⟩⟩
theorem nd_cons {d : Addr} {l : List (Addr × Obj)} {L : List Nat} (h : ∀ p ∈ l, p.1 < d) (hN : ND L) (e : L = l.map (·.1) := by rfl) : ND (d :: L) :=
  ⟨List.nodup_cons.mpr ⟨fun hm => by
    rw [e] at hm
    obtain ⟨q, hq, e2⟩ := List.mem_map.mp hm
    have h9 := h q hq
    rw [e2] at h9
    exact Nat.lt_irrefl _ h9, hN.p⟩⟩
theorem nd_keep {L : List Nat} (m : List Bool) (hN : ND L) : ND (keepBy m L) := by
  refine ⟨?_⟩
  have hs : (keepBy m L).Sublist L := by
    clear hN
    induction m generalizing L with
    | nil => cases L <;> exact List.Sublist.refl _
    | cons b m ih =>
      cases L with
      | nil => cases b <;> exact List.Sublist.refl _
      | cons a L =>
        cases b with
        | true => exact (ih).cons₂ a
        | false => exact (ih).cons a
  exact hN.p.sublist hs
theorem nd_front (n : Nat) {L : List Nat} {a : Nat} (hN : ND L) (h : L[n]? = some a := by rfl) : ND (a :: L.eraseIdx n) := by
  refine ⟨?_⟩
  have hp : (a :: L.eraseIdx n).Perm L := by
    clear hN
    induction n generalizing L with
    | zero =>
      cases L with
      | nil => cases h
      | cons b L => cases h; exact List.Perm.refl _
    | succ n ih =>
      cases L with
      | nil => cases h
      | cons b L =>
        have := ih (L := L) (by simpa using h)
        exact (List.Perm.swap b a _).trans (this.cons b)
  exact hp.nodup_iff.mpr hN.p
theorem uf_head {d : Addr} {o : Obj} {l : List (Addr × Obj)} (hN : ND (d :: l.map (·.1))) : UpdF d o ((d, o) :: l) (fun x => (d, x) :: l) :=
  UpdF.head fun q hq e => (List.nodup_cons.mp hN.p).1 (e ▸ List.mem_map_of_mem hq)
theorem uf_tail {p : Addr × Obj} {d : Addr} {o : Obj} {l : List (Addr × Obj)} {g : Obj → List (Addr × Obj)} (hN : ND (p.1 :: l.map (·.1))) (k : ND (l.map (·.1)) → UpdF d o l g) : UpdF d o (p :: l) (fun x => p :: g x) := by
  have hU := k ⟨(List.nodup_cons.mp hN.p).2⟩
  refine UpdF.tail (fun e => ?_) hU
  obtain ⟨pre, post, e2, _, _, _⟩ := hU.split
  refine (List.nodup_cons.mp hN.p).1 ?_
  rw [e, e2]
  simp
theorem lt_cons {d x : Addr} {o : Obj} {l : List (Addr × Obj)} (h1 : ∀ q ∈ l, q.1 < d) (h2 : @LT.lt Nat _ d x) : ∀ q ∈ (d, o) :: l, q.1 < x := fun q hq => by
  rcases List.mem_cons.mp hq with e | hq
  · rw [e]; exact h2
  · exact Nat.lt_trans (h1 q hq) h2
end Mine
namespace Mine
theorem nd_start {h₀ h : Heap} {L : Addr} {l : List (Addr × Obj)} (_N : News h₀ L h l) (hd : Down (l.map (·.1))) : ND (l.map (·.1)) := nd_down _ hd
end Mine
namespace Mine
theorem nd_cons2 {d x : Addr} {l : List (Addr × Obj)} {L : List Nat} (h : ∀ p ∈ l, p.1 < d) (h2 : @LT.lt Nat _ d x) (hN : ND L) (e : L = l.map (·.1) := by rfl) : ND (x :: d :: L) := by
  have h3 := nd_cons h hN e
  refine ⟨List.nodup_cons.mpr ⟨fun hm => ?_, h3.p⟩⟩
  rcases List.mem_cons.mp hm with e2 | hm
  · exact Nat.lt_irrefl _ (e2 ▸ h2)
  · rw [e] at hm
    obtain ⟨q, hq, e2⟩ := List.mem_map.mp hm
    have h9 := h q hq
    rw [e2] at h9
    exact Nat.lt_irrefl _ (Nat.lt_trans h9 h2)
end Mine
namespace Mine
def setNth9 : Nat → Addr × Obj → List (Addr × Obj) → List (Addr × Obj)
  | _, _, [] => []
  | 0, x, _ :: l => x :: l
  | n + 1, x, a :: l => a :: setNth9 n x l
def getNth9 : Nat → List (Addr × Obj) → Option (Addr × Obj)
  | _, [] => none
  | 0, a :: _ => some a
  | n + 1, _ :: l => getNth9 n l
theorem uf_at_core : ∀ (k : Nat) (l : List (Addr × Obj)) (d : Addr) (o : Obj), ND (l.map (·.1)) → getNth9 k l = some (d, o) → UpdF d o l (fun x => setNth9 k (d, x) l) := by
  intro k l
  induction l generalizing k with
  | nil => intro d o _ h; cases k <;> cases h
  | cons a l ih =>
    intro d o hN h
    cases k with
    | zero =>
      cases h
      exact uf_head hN
    | succ k =>
      obtain ⟨a1, a2⟩ := a
      exact uf_tail (p := (a1, a2)) hN fun h2 => ih k d o h2 h
theorem uf_at (k : Nat) {d : Addr} {o : Obj} {l : List (Addr × Obj)} {g : Obj → List (Addr × Obj)} {L : List Nat} (hN : ND L) (e : L = l.map (·.1)) (hk : getNth9 k l = some (d, o)) (hg : ∀ x, g x = setNth9 k (d, x) l) : UpdF d o l g := by
  subst e
  have e2 : g = fun x => setNth9 k (d, x) l := funext hg
  rw [e2]
  exact uf_at_core k l d o hN hk
inductive At9 : Nat → List (Addr × Obj) → Addr → Obj → Prop
  | head {d : Addr} {o : Obj} {l : List (Addr × Obj)} : At9 0 ((d, o) :: l) d o
  | tail {k : Nat} {a : Addr × Obj} {l : List (Addr × Obj)} {d : Addr} {o : Obj} : At9 k l d o → At9 (k + 1) (a :: l) d o
theorem At9.pick {k : Nat} {l : List (Addr × Obj)} {d : Addr} {o : Obj} (h : At9 k l d o) : getNth9 k l = some (d, o) := by
  induction h with
  | head => rfl
  | tail _ ih => exact ih
theorem uf_in {k : Nat} {d : Addr} {o : Obj} {l : List (Addr × Obj)} {g : Obj → List (Addr × Obj)} {L : List Nat} (hN : ND L) (e : L = l.map (·.1)) (hk : At9 k l d o) (hg : ∀ x, g x = setNth9 k (d, x) l) : UpdF d o l g := uf_at k hN e hk.pick hg
theorem offW_nd {i : Addr} {o : Obj} {l : List (Addr × Obj)} {L : List Nat} (hN : ND (i :: L)) (e : L = l.map (·.1)) : OffW [(i, o)] l := by
  subst e
  induction l with
  | nil => exact trivial
  | cons p r ih =>
    have h := List.nodup_cons.mp hN.p
    refine ⟨⟨.inl fun e => h.1 ?_, trivial⟩, ih ⟨List.nodup_cons.mpr ⟨fun hm => h.1 (List.mem_cons_of_mem _ hm), (List.nodup_cons.mp h.2).2⟩⟩⟩
    have e' : i = p.1 := Eq.symm e
    subst e'
    exact List.mem_cons_self
theorem off_mask {I : Addr} {all : List (Addr × Obj)} {L : List Nat} (mask : List Bool) (j : Nat) (hN : ND L) (e : L = all.map (·.1)) (h1 : L[j]? = some I) (h2 : mask[j]? = some false) : ∀ p ∈ keepBy mask all, p.1 ≠ I := by
  subst e
  induction mask generalizing all j with
  | nil => cases h2
  | cons b mask ih =>
    cases all with
    | nil => cases b <;> exact fun p hp => absurd hp List.not_mem_nil
    | cons a all =>
      have h := List.nodup_cons.mp hN.p
      cases j with
      | zero =>
        cases h2
        cases h1
        exact fun p hp e9 => h.1 (by rw [← e9]; exact List.mem_map.mpr ⟨p, keepBy_sub mask all p hp, rfl⟩)
      | succ j =>
        have h1' : (all.map (·.1))[j]? = some I := by simpa using h1
        have h2' : mask[j]? = some false := by simpa using h2
        have h3 := ih (all := all) j h2' ⟨h.2⟩ h1'
        cases b with
        | false => exact h3
        | true =>
          intro p hp
          rcases List.mem_cons.mp hp with rfl | hp
          · intro e9
            exact h.1 (by show p.1 ∈ _; rw [e9]; exact List.mem_of_getElem? h1')
          · exact h3 p hp
end Mine
end
section
namespace Mine
local macro_rules | `(tactic| k_all) => `(tactic| assumption)
set_option maxRecDepth 100000 in
set_option maxHeartbeats 8000000 in
theorem limits_ct {w : World} {p : Program} {loose : List Str} {mean : ExcName → Option Value} {mg mb : Str → Option Value}
    {dp un : Nat} {gd : Option (List Code)} {cn : Str} {cs : Scope} {a : Addr} {ccd : Value} {cl : List (Str × Addr)} {outer : List Env} {A₀ : Around} {base h₀ : Heap} {L : Addr} {m : Str → Option Value} {s : Shared} {Q E : Value → Shared → Prop}
    {n : Int} {t1 : Tok} {news : List (Addr × Obj)}
    (B : Below A₀ base outer h₀) (F : Fr h₀ L s.heap m) (X : (Mine.hd.heap_1 w.params).In h₀) (N : News h₀ L s.heap news) (T : Top p loose mean mg mb h₀) (hk : cs.kind = .function)
    (hn0 : 4 ≤ n) (hn1 : n ≤ 12) (hdp : dp + 10 < recursionLimit) (hun : un ≤ 200)
    (hret : ∀ (x d : Addr) (k0 k1 k2 k3 k4 k5 k6 k7 u0 u1 u2 u3 u4 u5 u6 u7 : Tok) (h' : Heap) (tk' : Nat), Fr h₀ L h' m → News h₀ L h' ((x, instObj 204 d) :: (d, limD w.params n k0 k1 k2 k3 k4 k5 k6 k7 u0 u1 u2 u3 u4 u5 u6 u7) :: news) → (∀ q ∈ news, q.1 < d) → d < x → Q (.ref x) { s with heap := h', toks := tk' }) :
    wpAny (model PySem.Challenge.rw_pf0120_01.row.prog w) (ktrTop dp un gd cn cs L a ccd cl outer) (call (.ref 204) [] [(Str.ofString "width", .int n t1)]) Q E s := by
  revert X; k_fill; intro X
  k_dflt (refine' call_cls ?k1 ?k2 ?k3 ?k4 ?k5 ?k6 ?_; (case k1 => k_asm); (case k2 => k_asm); (case k3 => k_asm); (case k4 => k_is); (case k5 => k_is); (case k6 => k_is); k_whole; intro x' d' h' F' N' l1 l2)
  have l3 : ∀ p ∈ news, p.1 ≠ d' := fun p hp => Nat.ne_of_lt (l1 p hp)
  have l4 := ltN l2
  k_dflt (refine' code_def (binds := [(Str.ofString "self", .ref x'), (Str.ofString "width", .int n t1), (Str.ofString "real_digits", .int 7 483), (Str.ofString "double_digits", .int 15 484), (Str.ofString "top_exponent", .int 38 485), (Str.ofString "steps", .int 1000000 486), (Str.ofString "continuations", .int 19 487), (Str.ofString "columns", .int 72 488), (Str.ofString "depth", .int 40 489)]) ?k1 ?k2 ?k3 ?k4 ?k5 ?kA ?kF ?kK ?k6 ?k7 ?k8 ?k9 ?kB ?_ ?c2 ?c3 ?c4 ?c5; (case kA => exact rfl); (case kF => exact rfl); (case kK => assumption); (case k1 => k_asm); (case k2 => k_asm); (case k3 => k_asm); (case k4 => k_asm); (case k5 => k_asm); (case k6 => k_is); (case k7 => k_is); (case k8 => ktr_room); (case k9 => exact binds_K (by k_in) rfl (by k_is) rfl rfl rfl); (case c5 => decide); (case kB => exact locs rfl); (case c2 => exact rfl); (case c3 => exact rfl); (case c4 => exact rfl); k_whole; intro g' L' h' FG' F' N' B' X' T'; (try dsimp only); (try k_lift B'); (try k_fold))
  repeat' ((fail_if_success (with_reducible show Q _ _)); first | (k_unfold; (try dsimp only)) | (with_reducible refine stripQ ?_; k_unfold; (try dsimp only)) | (k_end; wrow_close) | walk1 | (dsimp only; walk1) | (leave1; walk_say "STEP leave1"; try dsimp only))
  exact hret _ _ _ _ _ _ _ _ _ _ _ _ _ _ _ _ _ _ _ _ (by assumption) (by assumption) l1 l2
end Mine
end
section
namespace Mine
abbrev fig (c : Nat) : Bool := decide (48 ≤ c) && decide (c ≤ 57)
theorem find_fig : ∀ c ∈ SIGNS, Txt.find (Str.ofString "0123456789") (SL [c]) = if fig c = true then (c : Int) - 48 else -1 := by decide +kernel
theorem occ_sign : ∀ c ∈ SIGNS, occ (Str.ofString "+-") (SL [c]) = !(c == 43 || c == 45) := by decide +kernel
theorem occ_fig : ∀ c ∈ SIGNS, occ (Str.ofString "0123456789") (SL [c]) = !fig c := by decide +kernel
theorem rk_cons (a : Int) (j : Nat) : rangeKs a (j + 1) = a :: rangeKs (a + 1) j := by
  unfold rangeKs
  rw [List.range_succ_eq_map, List.map_cons, List.map_map]
  congr 1
  · simp
  · apply List.map_congr_left
    intro i _
    simp only [Function.comp]; omega
theorem rk_add (a : Int) (i j : Nat) : rangeKs a (i + j) = rangeKs a i ++ rangeKs (a + i) j := by
  induction i generalizing a with
  | zero => simp [rangeKs]
  | succ i ih =>
    rw [show i + 1 + j = (i + j) + 1 from by omega, rk_cons, rk_cons, ih, List.cons_append]
    congr 2
    rw [show a + 1 + (i : Int) = a + ((i + 1 : Nat) : Int) from by omega]
theorem first_fold (x : Str) : ∀ (ks l : List Int), ks.foldl (firstT x) l = l ++ ks.filter fun k => (Txt.item x k != Str.ofString " ") := by
  intro ks
  induction ks with
  | nil => intro l; simp
  | cons k r ih =>
    intro l
    rw [List.foldl_cons, ih]
    unfold firstT
    by_cases h : (Txt.item x k != Str.ofString " ") = true
    · rw [if_pos h, List.filter_cons_of_pos (by exact h), List.append_assoc]; rfl
    · rw [if_neg h, List.filter_cons_of_neg (by exact h)]
theorem item_blank {l : List Nat} {k : Int} (h0 : 0 ≤ k) (h1 : k < (l.length : Int)) : (Txt.item (SL l) k != Str.ofString " ") = !decide (l.getD k.toNat 0 = 32) := by
  rw [SL_item h0 h1, sp_is]
  show (!(SL [l.getD k.toNat 0] == SL [32])) = _
  rw [SL_beq]
  simp
theorem split_blank : ∀ l : List Nat, (∀ c ∈ l, c = 32) ∨ ∃ n c r, l = List.replicate n 32 ++ c :: r ∧ c ≠ 32 := by
  intro l
  induction l with
  | nil => exact .inl fun _ h => nomatch h
  | cons a l ih =>
    by_cases h : a = 32
    · rcases ih with ih | ⟨n, c, r, e, hc⟩
      · exact .inl fun c hc => by
          rcases List.mem_cons.mp hc with rfl | hc
          · exact h
          · exact ih c hc
      · exact .inr ⟨n + 1, c, r, by rw [e, h]; rfl, hc⟩
    · exact .inr ⟨0, a, l, rfl, h⟩
theorem firstL_blank {l : List Nat} (h : ∀ c ∈ l, c = 32) : firstL (SL l) = [] := by
  unfold firstL
  rw [first_fold, List.nil_append, List.filter_eq_nil_iff]
  intro k hk
  have := mem_rangeKs hk
  rw [SL_len] at this
  rw [item_blank (by omega) (by omega)]
  have hm : l.getD k.toNat 0 = 32 := by
    have hlt : k.toNat < l.length := by omega
    rw [List.getD_eq_getElem?_getD, List.getElem?_eq_getElem hlt]
    exact h _ (List.getElem_mem hlt)
  rw [hm]; decide
theorem firstL_some {n c : Nat} {r : List Nat} (hc : c ≠ 32) : ∃ t, firstL (SL (List.replicate n 32 ++ c :: r)) = (n : Int) :: t := by
  unfold firstL
  rw [first_fold, List.nil_append, SL_len]
  have hl : (List.replicate n 32 ++ c :: r).length = n + (r.length + 1) := by simp
  rw [hl, rk_add, List.filter_append, rk_cons]
  have e1 : (rangeKs 0 n).filter (fun k => (Txt.item (SL (List.replicate n 32 ++ c :: r)) k != Str.ofString " ")) = [] := by
    rw [List.filter_eq_nil_iff]
    intro k hk
    have := mem_rangeKs hk
    rw [item_blank (by omega) (by rw [hl]; omega)]
    have hm : (List.replicate n 32 ++ c :: r).getD k.toNat 0 = 32 := by
      have hlt : k.toNat < (List.replicate n 32).length := by rw [List.length_replicate]; omega
      rw [List.getD_eq_getElem?_getD, List.getElem?_append_left hlt, List.getElem?_replicate, if_pos (by omega)]; rfl
    rw [hm]; decide
  rw [e1, List.nil_append, Int.zero_add, List.filter_cons_of_pos]
  · exact ⟨_, rfl⟩
  · rw [item_blank (by omega) (by rw [hl]; omega)]
    have hm : (List.replicate n 32 ++ c :: r).getD (n : Int).toNat 0 = c := by
      rw [Int.toNat_natCast, List.getD_eq_getElem?_getD, List.getElem?_append_right (by simp)]
      simp
    rw [hm]; simp [hc]
def wst (z : Bool) (st : Option (Int × Int × Bool)) (c : Nat) : Option (Int × Int × Bool) := st.bind fun p =>
  if fig c = true ∨ (c = 32 ∧ z = true) then some (10 * p.1 + (if c = 32 then 0 else (c : Int) - 48), p.2.1 + 1, p.2.2) else if c ≠ 32 then none else some p
theorem wT_is {l : List Nat} {z : Bool} {k0 k : Int} (hl : ∀ c ∈ l, c ∈ SIGNS) (h0 : 0 ≤ k) (h1 : k < (l.length : Int)) (hs : ¬ (k = k0 ∧ (l.getD k.toNat 0 = 43 ∨ l.getD k.toNat 0 = 45))) (st : Option (Int × Int × Bool)) :
    wT (SL l) z k0 st k = wst z st (l.getD k.toNat 0) := by
  have hm : l.getD k.toNat 0 ∈ SIGNS := by
    have hlt : k.toNat < l.length := by omega
    rw [List.getD_eq_getElem?_getD, List.getElem?_eq_getElem hlt]
    exact hl _ (List.getElem_mem hlt)
  unfold wT wst
  rw [SL_item h0 h1, occ_sign _ hm, occ_fig _ hm, sp_is]
  generalize l.getD k.toNat 0 = c at hs hm ⊢
  cases st with
  | none => rfl
  | some p =>
    rw [Option.bind_some, Option.bind_some]
    rw [if_neg (by
      rintro ⟨e, q⟩
      refine hs ⟨e, ?_⟩
      by_cases h43 : c = 43
      · exact .inl h43
      · exact .inr (by simpa [h43] using q))]
    have e1 : (SL [c] == SL [32]) = decide (c = 32) := by rw [SL_beq]; simp
    have e2 : (SL [c] != SL [32]) = !decide (c = 32) := by show (!(SL [c] == SL [32])) = _; rw [e1]
    rw [e1, e2]
    have e3 : (SL [c]).cps.getD 0 0 = c := rfl
    rw [e3]
    simp only [Bool.not_eq_false', decide_eq_true_eq, Bool.not_eq_true', decide_eq_false_iff_not, ne_eq]
theorem wF_suffix {l : List Nat} {z : Bool} {k0 : Int} (hl : ∀ c ∈ l, c ∈ SIGNS) : ∀ (s : List Nat) (j : Nat) (st : Option (Int × Int × Bool)), l.drop j = s → k0 < (j : Int) → (rangeKs (j : Int) s.length).foldl (wT (SL l) z k0) st = s.foldl (wst z) st := by
  intro s
  induction s with
  | nil => intro j st _ _; rfl
  | cons c s ih =>
    intro j st e hj
    have hlen : j < l.length := by
      have := congrArg List.length e
      rw [List.length_drop, List.length_cons] at this; omega
    have hget : l.getD j 0 = c := by
      have := congrArg (fun q => q[0]?) e
      simp only [List.getElem?_drop, Nat.add_zero, List.getElem?_cons_zero] at this
      rw [List.getD_eq_getElem?_getD, this]; rfl
    rw [List.length_cons, rk_cons, List.foldl_cons, List.foldl_cons, wT_is hl (by omega) (by omega) (by rintro ⟨q, _⟩; omega)]
    rw [Int.toNat_natCast, hget]
    have := ih (j + 1) (wst z st c) (by rw [← List.drop_drop, e]; rfl) (by omega)
    rw [← this]; rfl
def ex (z : Bool) (d : Nat) : List Nat := if d = 32 then (if z = true then [48] else []) else [d]
def wh (st : Option Int) (d : Nat) : Option Int := st.bind fun n => if fig d = true then some (n * 10 + ((d : Int) - 48)) else none
theorem wh_none (t : List Nat) : t.foldl wh none = none := by
  induction t with
  | nil => rfl
  | cons c r ih => exact ih
theorem wst_none (z : Bool) (t : List Nat) : t.foldl (wst z) none = none := by
  induction t with
  | nil => rfl
  | cons c r ih => exact ih
theorem fold_same (z : Bool) : ∀ (r : List Nat) (n m : Int) (mi : Bool), r.foldl (wst z) (some (n, m, mi)) = ((r.flatMap (ex z)).foldl wh (some n)).map fun n' => (n', m + ((r.flatMap (ex z)).length : Int), mi) := by
  intro r
  induction r with
  | nil => intro n m mi; simp
  | cons d r ih =>
    intro n m mi
    rw [List.foldl_cons, List.flatMap_cons, List.foldl_append]
    by_cases hd : d = 32
    · subst hd
      cases z with
      | true =>
        have e1 : wst true (some (n, m, mi)) 32 = some (10 * n + 0, m + 1, mi) := rfl
        have e2 : (ex true 32).foldl wh (some n) = some (n * 10 + 0) := rfl
        rw [e1, e2, ih, show 10 * n + 0 = n * 10 + 0 from by omega]
        congr 1
        funext n'
        rw [List.length_append, show (ex true 32).length = 1 from rfl]
        congr 2
        omega
      | false =>
        have e1 : wst false (some (n, m, mi)) 32 = some (n, m, mi) := rfl
        have e2 : (ex false 32).foldl wh (some n) = some n := rfl
        rw [e1, e2, ih]
        rfl
    · have e0 : ex z d = [d] := by unfold ex; rw [if_neg hd]
      rw [e0]
      by_cases hf : fig d = true
      · have e1 : wst z (some (n, m, mi)) d = some (10 * n + ((d : Int) - 48), m + 1, mi) := by
          unfold wst; rw [Option.bind_some, if_pos (.inl hf), if_neg hd]
        have e2 : [d].foldl wh (some n) = some (n * 10 + ((d : Int) - 48)) := by
          show wh (some n) d = _
          unfold wh; rw [Option.bind_some, if_pos hf]
        rw [e1, e2, ih, show 10 * n + ((d : Int) - 48) = n * 10 + ((d : Int) - 48) from by omega]
        congr 1
        funext n'
        rw [List.length_append, show ([d] : List Nat).length = 1 from rfl]
        congr 2
        omega
      · have e1 : wst z (some (n, m, mi)) d = none := by
          unfold wst; rw [Option.bind_some, if_neg (by rintro (q | ⟨q, _⟩); exact hf q; exact hd q), if_pos hd]
        have e2 : [d].foldl wh (some n) = none := by
          show wh (some n) d = _
          unfold wh; rw [Option.bind_some, if_neg hf]
        rw [e1, e2, wst_none, wh_none]; rfl
theorem wh_nonneg : ∀ (t : List Nat) (n n' : Int), 0 ≤ n → t.foldl wh (some n) = some n' → 0 ≤ n' := by
  intro t
  induction t with
  | nil => intro n n' h e; cases e; exact h
  | cons d t ih =>
    intro n n' h e
    rw [List.foldl_cons] at e
    by_cases hf : fig d = true
    · have e2 : wh (some n) d = some (n * 10 + ((d : Int) - 48)) := by unfold wh; rw [Option.bind_some, if_pos hf]
      rw [e2] at e
      have : 48 ≤ d := by simp [fig] at hf; exact hf.1
      exact ih _ _ (by omega) e
    · have e2 : wh (some n) d = none := by unfold wh; rw [Option.bind_some, if_neg hf]
      rw [e2, wh_none] at e; cases e
theorem wholeF_is : ∀ (t : List Nat), (∀ c ∈ t, c ∈ SIGNS) → ∀ st, (t.map fun (c : Nat) => (c : Int)).foldl wholeT st = t.foldl wh st := by
  intro t
  induction t with
  | nil => intro _ st; rfl
  | cons d t ih =>
    intro h st
    rw [List.map_cons, List.foldl_cons, List.foldl_cons, ih fun c hc => h c (.tail _ hc)]
    congr 1
    unfold wholeT wh FIGS
    cases st with
    | none => rfl
    | some n =>
      rw [Option.bind_some, Option.bind_some, Int.toNat_natCast, SL_one, find_fig d (h d (.head _))]
      by_cases hf : fig d = true
      · have : 48 ≤ d := by simp [fig] at hf; exact hf.1
        rw [if_pos hf, if_pos hf, if_neg (by omega)]
      · rw [if_neg hf, if_neg hf]; rfl
theorem wholeS_is {t : List Nat} (h : ∀ c ∈ t, c ∈ SIGNS) : wholeS (SL t) = if t = [] then -1 else (t.foldl wh (some 0)).getD (-1) := by
  unfold wholeS wholeF
  rw [em_is, SL_beq, SL_codes, wholeF_is t h]
  simp only [decide_eq_true_eq]
theorem last_item {p : List Nat} {q : Nat} : Txt.item (SL (p ++ [q])) (-1) = SL [q] := by
  rw [← SL_app]; exact item_last_right1 (SL p) q
theorem e_is : Str.ofString "E" = SL [69] := by decide +kernel
theorem d_is : Str.ofString "D" = SL [68] := by decide +kernel
theorem zero_is : Str.ofString "0" = SL [48] := by decide +kernel
theorem not_ED : ∀ c ∈ SIGNS, c ≠ 69 ∧ c ≠ 68 := by decide
theorem ex_signs {z : Bool} {d : Nat} (h : d ∈ SIGNS) : ∀ c ∈ ex z d, c ∈ SIGNS := by
  unfold ex
  split
  · split
    · intro c hc; rw [List.mem_singleton.mp hc]; decide
    · intro c hc; cases hc
  · intro c hc; rw [List.mem_singleton.mp hc]; exact h
theorem solidT_is {z : Bool} {p : List Nat} {q d : Nat} (hq : q ∈ SIGNS) (hd : d ∈ SIGNS) : solidT z (SL (p ++ [q])) (d : Int) = SL (p ++ [q] ++ ex z d) := by
  unfold solidT ex
  rw [Int.toNat_natCast, SL_one, sp_is]
  have e1 : (SL [d] != SL [32]) = !decide (d = 32) := by show (!(SL [d] == SL [32])) = _; rw [SL_beq]; simp
  rw [e1]
  by_cases h : d = 32
  · subst h
    rw [if_neg (by decide), if_pos rfl, last_item, em_is, e_is, d_is, zero_is]
    have e2 : (SL (p ++ [q]) != SL []) = true := by show (!(SL (p ++ [q]) == SL [])) = _; rw [SL_beq]; simp
    have e3 : (SL [q] != SL [69]) = true := by show (!(SL [q] == SL [69])) = _; rw [SL_beq]; simp [(not_ED q hq).1]
    have e4 : (SL [q] != SL [68]) = true := by show (!(SL [q] == SL [68])) = _; rw [SL_beq]; simp [(not_ED q hq).2]
    rw [e2, e3, e4]
    cases z with
    | true => rw [if_pos ⟨rfl, rfl, rfl, rfl⟩, if_pos rfl, SL_app]
    | false => rw [if_neg (by rintro ⟨q, _⟩; cases q), if_neg (by decide), List.append_nil]
  · rw [if_neg h, if_pos (by simp [h]), SL_app]
theorem solid_tail {z : Bool} : ∀ (r : List Nat) (p : List Nat) (q : Nat), q ∈ SIGNS → (∀ c ∈ r, c ∈ SIGNS) → (r.map fun (c : Nat) => (c : Int)).foldl (solidT z) (SL (p ++ [q])) = SL (p ++ [q] ++ r.flatMap (ex z)) := by
  intro r
  induction r with
  | nil => intro p q _ _; simp
  | cons d r ih =>
    intro p q hq hr
    rw [List.map_cons, List.foldl_cons, solidT_is hq (hr d (.head _)), List.flatMap_cons, ← List.append_assoc]
    have hx : ∃ p' q', p ++ [q] ++ ex z d = p' ++ [q'] ∧ q' ∈ SIGNS := by
      unfold ex
      split
      · split
        · exact ⟨p ++ [q], 48, rfl, by decide⟩
        · exact ⟨p, q, by simp, hq⟩
      · exact ⟨p ++ [q], d, rfl, hr d (.head _)⟩
    obtain ⟨p', q', e, hq'⟩ := hx
    rw [e]
    exact ih p' q' hq' fun c hc => hr c (.tail _ hc)
theorem solid_blank {z : Bool} : ∀ (l : List Nat), (∀ c ∈ l, c = 32) → (l.map fun (c : Nat) => (c : Int)).foldl (solidT z) (SL []) = SL [] := by
  intro l
  induction l with
  | nil => intro _; rfl
  | cons d l ih =>
    intro h
    have hd := h d (.head _)
    subst hd
    rw [List.map_cons, List.foldl_cons]
    have e : solidT z (SL []) ((32 : Nat) : Int) = SL [] := by
      unfold solidT
      rw [Int.toNat_natCast, SL_one, sp_is, em_is, if_neg (by decide +kernel), if_neg (by rintro ⟨_, q, _⟩; revert q; decide +kernel)]
    rw [e]
    exact ih fun c hc => h c (.tail _ hc)
theorem solid_is {z : Bool} {n c : Nat} {r : List Nat} (hc : c ≠ 32) (hs : c ∈ SIGNS) (hr : ∀ d ∈ r, d ∈ SIGNS) : solidS z (KStt.codes (SL (List.replicate n 32 ++ c :: r))) = SL (c :: r.flatMap (ex z)) := by
  unfold solidS
  rw [SL_codes, em_is, List.map_append, List.foldl_append, solid_blank _ (fun c hc => List.eq_of_mem_replicate hc), List.map_cons, List.foldl_cons]
  have e : solidT z (SL []) (c : Int) = SL ([] ++ [c]) := by
    unfold solidT
    rw [Int.toNat_natCast, SL_one, sp_is]
    have e1 : (SL [c] != SL [32]) = true := by show (!(SL [c] == SL [32])) = _; rw [SL_beq]; simp [hc]
    rw [e1, if_pos rfl, SL_app]
  rw [e, solid_tail r [] c hs hr]
  rfl
theorem in_width_is {n v : Int} (h0 : 4 ≤ n) (h1 : n ≤ 12) : (inWS v n = true) ↔ (-((2 : Int) ^ n.toNat).fdiv 2 ≤ v ∧ v < ((2 : Int) ^ n.toNat).fdiv 2) := by
  have e : 1 * (2 : Int) ^ (n - 1).toNat = ((2 : Int) ^ n.toNat).fdiv 2 := by
    have : n = 4 ∨ n = 5 ∨ n = 6 ∨ n = 7 ∨ n = 8 ∨ n = 9 ∨ n = 10 ∨ n = 11 ∨ n = 12 := by omega
    rcases this with h | h | h | h | h | h | h | h | h <;> (subst h; decide)
  unfold inWS
  rw [e]
  simp only [Bool.and_eq_true, decide_eq_true_eq]
end Mine
namespace Mine
theorem minus_is : Str.ofString "-" = SL [45] := by decide +kernel
theorem plus_is : Str.ofString "+" = SL [43] := by decide +kernel
theorem SL_slice1 (c : Nat) (t : List Nat) : Txt.slice (SL (c :: t)) none (some 1) = SL [c] := SL_to1 _
theorem sgS_is (c : Nat) (t : List Nat) : sgS (SL (c :: t)) = if c = 45 then -1 else 1 := by
  unfold sgS
  rw [SL_slice1, minus_is, SL_beq]
  simp
theorem restS_is (c : Nat) (t : List Nat) : restS (SL (c :: t)) = if c = 45 ∨ c = 43 then SL t else SL (c :: t) := by
  unfold restS
  rw [SL_slice1, minus_is, plus_is, SL_beq, SL_beq, SL_from (by decide)]
  by_cases h : c = 45
  · subst h; rfl
  · by_cases h2 : c = 43
    · subst h2; rfl
    · simp [h, h2]
/-- the law's fold from the first sign on -/
theorem wF_is {z : Bool} {n c : Nat} {r : List Nat} (hc : c ≠ 32) (hl : ∀ d ∈ List.replicate n 32 ++ c :: r, d ∈ SIGNS) :
    wF (SL (List.replicate n 32 ++ c :: r)) z (n : Int) (rangeKs (n : Int) (((SL (List.replicate n 32 ++ c :: r)).length : Int) - (n : Int)).toNat) =
      r.foldl (wst z) (if c = 43 ∨ c = 45 then some (0, 0, c == 45) else if fig c = true then some ((c : Int) - 48, 1, false) else none) := by
  have hlen : (List.replicate n 32 ++ c :: r).length = n + (r.length + 1) := by simp
  have hget : (List.replicate n 32 ++ c :: r).getD n 0 = c := by
    rw [List.getD_eq_getElem?_getD, List.getElem?_append_right (by simp)]
    simp
  have hcs : c ∈ SIGNS := hl c (by simp)
  unfold wF
  rw [SL_len, hlen, show (((n + (r.length + 1) : Nat) : Int) - (n : Int)).toNat = r.length + 1 from by omega, rk_cons, List.foldl_cons]
  have hs := wF_suffix (z := z) (k0 := (n : Int)) hl r (n + 1) (wT (SL (List.replicate n 32 ++ c :: r)) z (n : Int) (some (0, 0, false)) (n : Int)) (by
    rw [List.drop_append]
    simp) (by omega)
  rw [show ((n : Int) + 1) = ((n + 1 : Nat) : Int) from by omega, hs]
  congr 1
  by_cases hsg : c = 43 ∨ c = 45
  · rw [if_pos hsg]
    unfold wT
    rw [Option.bind_some, SL_item (by omega) (by rw [hlen]; omega), Int.toNat_natCast, hget, occ_sign c hcs, if_pos, minus_is, SL_beq]
    · simp; rfl
    · refine ⟨rfl, ?_⟩
      rcases hsg with rfl | rfl <;> rfl
  · rw [if_neg hsg, wT_is hl (by omega) (by rw [hlen]; omega) (by
      rintro ⟨_, q⟩
      rw [Int.toNat_natCast, hget] at q
      exact hsg q), Int.toNat_natCast, hget]
    unfold wst
    rw [Option.bind_some]
    by_cases hf : fig c = true
    · rw [if_pos (.inl hf), if_pos hf, if_neg hc]
      simp
    · rw [if_neg (by rintro (q | ⟨q, _⟩); exact hf q; exact hc q), if_neg hf, if_pos hc]
theorem lawWhole_is {x : Str} {z : Bool} {w k0 : Int} {t : List Int} (h : firstL x = k0 :: t) : lawWhole x z w = match wF x z k0 (rangeKs k0 (x.length - k0).toNat) with
    | none => ⟨code, .i 1⟩
    | some (n, m, mi) => if m = 0 then ⟨code, .i 1⟩ else
        if -((2 : Int) ^ w.toNat).fdiv 2 ≤ (if mi = true then -n else n) ∧ (if mi = true then -n else n) < ((2 : Int) ^ w.toNat).fdiv 2 then ⟨told, .i (if mi = true then -n else n)⟩ else ⟨code, .i 2⟩ := by
  unfold lawWhole
  rw [h]
  try rfl
theorem last_step {w v : Int} (h0 : 4 ≤ w) (h1 : w ≤ 12) : (if -((2 : Int) ^ w.toNat).fdiv 2 ≤ v ∧ v < ((2 : Int) ^ w.toNat).fdiv 2 then (⟨told, .i v⟩ : Res) else ⟨code, .i 2⟩) = (if inWS v w = true then Out.ok (.i v) else Out.bad 2).res := by
  by_cases h : inWS v w = true
  · rw [if_pos h, if_pos ((in_width_is h0 h1).mp h)]; rfl
  · rw [if_neg h, if_neg fun q => h ((in_width_is h0 h1).mpr q)]; rfl
theorem readInt_is {z : Bool} {w : Int} {n c : Nat} {r : List Nat} (hc : c ≠ 32) (hs : c ∈ SIGNS) (hr : ∀ d ∈ r, d ∈ SIGNS) :
    readIntS (SL (List.replicate n 32 ++ c :: r)) z w =
      if wholeS (restS (SL (c :: r.flatMap (ex z)))) < 0 then .bad 1
      else if inWS (sgS (SL (c :: r.flatMap (ex z))) * wholeS (restS (SL (c :: r.flatMap (ex z))))) w = true then .ok (.i (sgS (SL (c :: r.flatMap (ex z))) * wholeS (restS (SL (c :: r.flatMap (ex z))))))
      else .bad 2 := by
  unfold readIntS
  rw [solid_is hc hs hr, em_is, SL_beq, if_neg (by simp)]
theorem whole_plain {x : Str} {z : Bool} {n : Int} (h : Alpha x) (h0 : 4 ≤ n) (h1 : n ≤ 12) : lawWhole x z n = (readIntS x z n).res := by
  rw [SL_cps x] at h ⊢
  generalize x.cps.toList = l at h ⊢
  have hl := alpha_mem h
  rcases split_blank l with hb | ⟨k, c, r, rfl, hc⟩
  · unfold lawWhole readIntS
    rw [firstL_blank hb]
    unfold solidS
    rw [SL_codes, em_is, solid_blank l hb]
    rw [if_pos (by rw [SL_beq]; rfl)]
    rfl
  · have hs : c ∈ SIGNS := hl c (by simp)
    have hr : ∀ d ∈ r, d ∈ SIGNS := fun d hd => hl d (by simp [hd])
    have ht : ∀ d ∈ r.flatMap (ex z), d ∈ SIGNS := fun d hd => by
      obtain ⟨q, hq, hd⟩ := List.mem_flatMap.mp hd
      exact ex_signs (hr q hq) d hd
    obtain ⟨t, et⟩ := firstL_some (n := k) (r := r) hc
    rw [lawWhole_is et, wF_is hc hl, readInt_is hc hs hr, restS_is, sgS_is]
    by_cases hsg : c = 43 ∨ c = 45
    · rw [if_pos hsg, if_pos hsg.symm, fold_same, wholeS_is ht]
      generalize r.flatMap (ex z) = t2
      by_cases he : t2 = []
      · subst he
        rw [if_pos rfl]
        rfl
      · rw [if_neg he]
        cases hw : t2.foldl wh (some 0) with
        | none => rfl
        | some v =>
          have hv := wh_nonneg t2 0 v (by omega) hw
          have hp : ¬ (0 + (t2.length : Int)) = 0 := by
            cases t2 with
            | nil => exact absurd rfl he
            | cons a b => simp only [List.length_cons]; omega
          simp only [Option.map_some, Option.getD_some]
          rw [if_neg hp, if_neg (show ¬ v < 0 from by omega)]
          have es : (if (c == 45) = true then -v else v) = (if c = 45 then -1 else 1) * v := by
            by_cases h45 : c = 45
            · subst h45; simp
            · rw [if_neg (by simpa using h45), if_neg h45]; omega
          rw [es]
          exact last_step h0 h1
    · have hsg' : ¬ (c = 45 ∨ c = 43) := fun q => hsg q.symm
      have h45 : ¬ c = 45 := fun q => hsg (.inr q)
      have ht2 : ∀ d ∈ c :: r.flatMap (ex z), d ∈ SIGNS := fun d hd => by
        rcases List.mem_cons.mp hd with rfl | hd
        · exact hs
        · exact ht d hd
      rw [if_neg hsg, if_neg hsg', if_neg h45, wholeS_is ht2, if_neg (show ¬ (c :: r.flatMap (ex z) = []) from by simp), List.foldl_cons]
      by_cases hf : fig c = true
      · have e2 : wh (some 0) c = some ((c : Int) - 48) := by unfold wh; rw [Option.bind_some, if_pos hf, Int.zero_mul, Int.zero_add]
        rw [if_pos hf, fold_same, e2]
        generalize r.flatMap (ex z) = t2
        cases hw : t2.foldl wh (some ((c : Int) - 48)) with
        | none => rfl
        | some v =>
          have : 48 ≤ c := by simp [fig] at hf; exact hf.1
          have hv := wh_nonneg t2 _ v (by omega) hw
          simp only [Option.map_some, Option.getD_some]
          rw [if_neg (show ¬ (1 + (t2.length : Int) = 0) from by omega), if_neg (show ¬ v < 0 from by omega)]
          rw [show (1 : Int) * v = v from by omega]
          exact last_step h0 h1
      · have e2 : wh (some 0) c = none := by unfold wh; rw [Option.bind_some, if_neg hf]
        rw [if_neg hf, e2, wst_none, wh_none]
        rfl
end Mine
end
section
namespace Mine

end Mine
open Mine
local macro_rules | `(tactic| k_lt $h:ident) => `(tactic| ((first | (fail_if_success (with_reducible rename ND _ => hN)) | ((with_reducible rename ND _ => hN); replace hN := nd_cons $h hN (by with_unfolding_all rfl))); replace $h := allLt_hd $h; try dsimp only at $h:ident))
local macro_rules | `(tactic| k_updF) => `(tactic| first | exact At9.head | (refine' At9.tail ?h9; (case h9 => k_updF)) | ((with_reducible rename ND _ => hN); (refine' uf_in ?h1 ?h2 ?h3 ?h4; (case h1 => exact hN); (case h3 => k_updF); (case h2 => with_unfolding_all rfl); (case h4 => (intro x9; dsimp only [setNth9]; try exact rfl)))))
local macro_rules | `(tactic| ktu_offL) => `(tactic| ((with_reducible rename ND _ => hN); exact offW_nd hN (by with_unfolding_all rfl)))
local macro_rules | `(tactic| passes_own) => `(tactic| with_reducible assumption)
local macro_rules | `(tactic| walk_at "eval Lambda") => `(tactic| (k_here; k_dflt (refine' kla_eval ?d0 ?_; (case d0 => exact rfl)); (first | (k_dflt (refine' kla_hit ?F ?N ?T ?C ?cd ?mem ?t ?n ?cl ?_; (case F => k_asm); (case N => k_asm); (case T => k_asm); (case cd => exact rfl); (case C => kn_code); (case mem => exact mem_last rfl); (case t => first | with_reducible exact tab_ok _ _ _ _ | kn_triples); (case n => first | with_reducible exact hit1 _ _ _ _ _ _ | with_reducible exact hit2 _ _ _ _ _ _ | with_reducible exact hit3 _ _ _ _ _ _ | with_reducible exact hit4 _ _ _ _ _ _ | kn_hit); (case cl => exact rfl); k_whole); intro f' ct' h' tk' F' N' l1; (try dsimp only at N'); (try k_lt l1)) | (k_dflt (refine' kla_nest ?F ?N ?T ?C ?cd ?U ?t ?n ?cl ?_; (case F => k_asm); (case N => k_asm); (case T => k_asm); (case cd => exact rfl); (case C => kn_code); (case U => k_updF); (case t => kn_triples); (case n => kn_among); (case cl => exact rfl); k_whole); intro f' c' oc' vs' t' ct' h' tk' F' N' d1' d2' l1 l2; (try dsimp only at N'); (have l9 := lt_cons (o := oc') l1 l2); (try k_lt l1); (try k_lt l9)))))
local macro_rules | `(tactic| walk_at "callWith ref") => `(tactic| (k_here; k_dflt (first
  | refine' callWith_K ?k1 ?k2 ?_; (case k1 => k_asm); (case k2 => k_is); k_whole
  | refine' callWith_KW0 ?k1 ?k2 ?k3 ?_; (case k1 => k_asm); (case k2 => k_is); (case k3 => exact rfl); k_whole)))
local macro_rules | `(tactic| walk_at "compareOp NotEq ref ref") => `(tactic| (k_here; k_dflt (refine' ne_res ?n1 ?n2 ?n3 ?n4 ?n5 ?_; (case n1 => k_asm); (case n2 => k_mem); (case n3 => k_mem); (case n4 => with_reducible rfl); (case n5 => (show callerA.units + 3 < _; rw [cLine_is]; decide)))))
set_option maxRecDepth 100000 in
set_option maxHeartbeats 8000000 in
theorem Mine.lawwalk : PySem.Challenge.rw_pf0120_01.Holds := Mine.hd (by
  k_go0
  all_goals try k_fold
  repeat' ((fail_if_success (with_reducible show wpAny _ _ (call (Value.ref _) _ _) _ _ _)); (fail_if_success (with_reducible show RangeRest _ _ _ _ _ _ _ _ _ _ _ _ _ _ _ _ _)); first | (k_unfold; (try dsimp only)) | (with_reducible refine stripQ ?_; k_unfold; (try dsimp only)) | (k_end; wrow_close) | walk1 | (dsimp only; walk1) | (leave1; walk_say "STEP leave1"; try dsimp only))
  rename (Obj.IsDictOf _ _ _) => hcup
  rename IntsAre _ (List.take _ _) => hI9
  refine' rest_rule3 hcup ?hm hI9 ?hc ?hL ?hDd ?hpo ?t0 ?t1 ?fin
  case hm => k_mem
  case hc => exact rfl
  case hL => exact rfl
  case hDd => k_ne
  case hpo => passes_own
  case t0 =>
    intro hDd Q9 E9 s9 hpo t9 h9 tk9 F9 N9
    have hN := nd_start N9 (by dsimp only [List.map]; simp only [Down, and_true]; (repeat' apply And.intro) <;> omega)
    dsimp only [List.map] at hN
    repeat' ((fail_if_success (with_reducible show wpAny _ _ (call (Value.ref _) _ _) _ _ _)); first | (k_unfold; (try dsimp only)) | (with_reducible refine stripQ ?_; k_unfold; (try dsimp only)) | (k_end; wrow_close) | walk1 | (dsimp only; walk1) | (leave1; walk_say "STEP leave1"; try dsimp only))
    k_dflt (refine' card_u ?ybx1 ?yfx1 ?yxx1 ?ynx1 ?ytx1 ?ykx1 ?yUx1 ?ymx1 hcup ?yix1 ?ylx1 ?yax1 (by omega) (by omega) ?ydx1 ?yux1 ?yrx1)
    case ybx1 => k_asm
    case yfx1 => k_asm
    case yxx1 => k_asm
    case ynx1 => k_asm
    case ytx1 => k_asm
    case ykx1 => exact rfl
    case yUx1 => k_updF
    case ymx1 => k_mem
    case yix1 => with_reducible assumption
    case ylx1 => (simp only [List.length_take]; omega)
    case yax1 => exact hDd
    case ydx1 => (show callerA.depth + 1 + _ < _; decide)
    case yux1 => (show callerA.units + 3 ≤ _; decide)
    intro card tx1 ox1 t2x1 kx1 hx1 tkx1 hA hL hkx1 hk9x1 hcupx1 Fx1 Nx1
    (try dsimp only at Nx1)
    (try dsimp only)
    repeat' ((fail_if_success (with_reducible show wpAny _ _ (call (Value.ref _) _ _) _ _ _)); first | (k_unfold; (try dsimp only)) | (with_reducible refine stripQ ?_; k_unfold; (try dsimp only)) | (k_end; wrow_close) | walk1 | (dsimp only; walk1) | (leave1; walk_say "STEP leave1"; try dsimp only))
    k_dflt (refine' shake_u ?ybx2 ?yfx2 ?yxx2 ?ynx2 ?ytx2 ?ykx2 ?yUx2 ?ymx2 hcupx1 ?yix2 ?ylx2 ?yax2 (by omega) (by omega) (by decide) (by decide) ?ydx2 ?yux2 ?yrx2)
    case ybx2 => k_asm
    case yfx2 => k_asm
    case yxx2 => k_asm
    case ynx2 => k_asm
    case ytx2 => k_asm
    case ykx2 => exact rfl
    case yUx2 => k_updF
    case ymx2 => k_mem
    case yix2 => with_reducible assumption
    case ylx2 => (simp only [List.length_take]; omega)
    case yax2 => exact hDd
    case ydx2 => (show callerA.depth + 1 + _ < _; decide)
    case yux2 => (show callerA.units + 3 ≤ _; decide)
    intro rf tx2 t2x2 ox2 hx2 tkx2 hrx2 hr9x2 hcupx2 Fx2 Nx2
    (try dsimp only at Nx2)
    (try dsimp only)
    repeat' ((fail_if_success (with_reducible show wpAny _ _ (call (Value.ref _) _ _) _ _ _)); first | (k_unfold; (try dsimp only)) | (with_reducible refine stripQ ?_; k_unfold; (try dsimp only)) | (k_end; wrow_close) | walk1 | (dsimp only; walk1) | (leave1; walk_say "STEP leave1"; try dsimp only))
    k_dflt (refine' shake_u ?ybx3 ?yfx3 ?yxx3 ?ynx3 ?ytx3 ?ykx3 ?yUx3 ?ymx3 hcupx2 ?yix3 ?ylx3 ?yax3 (by omega) (by omega) (by decide) (by decide) ?ydx3 ?yux3 ?yrx3)
    case ybx3 => k_asm
    case yfx3 => k_asm
    case yxx3 => k_asm
    case ynx3 => k_asm
    case ytx3 => k_asm
    case ykx3 => exact rfl
    case yUx3 => k_updF
    case ymx3 => k_mem
    case yix3 => with_reducible assumption
    case ylx3 => (simp only [List.length_take]; omega)
    case yax3 => exact hDd
    case ydx3 => (show callerA.depth + 1 + _ < _; decide)
    case yux3 => (show callerA.units + 3 ≤ _; decide)
    intro rw tx3 t2x3 ox3 hx3 tkx3 hrx3 hr9x3 hcupx3 Fx3 Nx3
    (try dsimp only at Nx3)
    (try dsimp only)
    repeat' ((fail_if_success (with_reducible show wpAny _ _ (call (Value.ref _) _ _) _ _ _)); first | (k_unfold; (try dsimp only)) | (with_reducible refine stripQ ?_; k_unfold; (try dsimp only)) | (k_end; wrow_close) | walk1 | (dsimp only; walk1) | (leave1; walk_say "STEP leave1"; try dsimp only))
    k_dflt (refine' shake_u ?ybx4 ?yfx4 ?yxx4 ?ynx4 ?ytx4 ?ykx4 ?yUx4 ?ymx4 hcupx3 ?yix4 ?ylx4 ?yax4 (by omega) (by omega) (by decide) (by decide) ?ydx4 ?yux4 ?yrx4)
    case ybx4 => k_asm
    case yfx4 => k_asm
    case yxx4 => k_asm
    case ynx4 => k_asm
    case ytx4 => k_asm
    case ykx4 => exact rfl
    case yUx4 => k_updF
    case ymx4 => k_mem
    case yix4 => with_reducible assumption
    case ylx4 => (simp only [List.length_take]; omega)
    case yax4 => exact hDd
    case ydx4 => (show callerA.depth + 1 + _ < _; decide)
    case yux4 => (show callerA.units + 3 ≤ _; decide)
    intro rl tx4 t2x4 ox4 hx4 tkx4 hrx4 hr9x4 hcupx4 Fx4 Nx4
    (try dsimp only at Nx4)
    (try dsimp only)
    repeat' ((fail_if_success (with_reducible show wpAny _ _ (call (Value.ref _) _ _) _ _ _)); first | (k_unfold; (try dsimp only)) | (with_reducible refine stripQ ?_; k_unfold; (try dsimp only)) | (k_end; wrow_close) | walk1 | (dsimp only; walk1) | (leave1; walk_say "STEP leave1"; try dsimp only))
    k_dflt (refine' limits_ct (n := 4 + rw) ?ybx5 ?yfx5 ?yxx5 ?ynx5 ?ytx5 ?ykx5 (by omega) (by omega) ?ydx5 ?yux5 ?yrx5)
    case ybx5 => k_asm
    case yfx5 => k_asm
    case yxx5 => k_asm
    case ynx5 => k_asm
    case ytx5 => k_asm
    case ykx5 => exact rfl
    case ydx5 => (show callerA.depth + 1 + _ < _; decide)
    case yux5 => (show callerA.units + 3 ≤ _; decide)
    intro lim dx5 q0x5 q1x5 q2x5 q3x5 q4x5 q5x5 q6x5 q7x5 q8x5 q9x5 q10x5 q11x5 q12x5 q13x5 q14x5 q15x5 hx5 tkx5 Fx5 Nx5 lx5 l2x5
    (with_reducible rename ND _ => hN)
    replace hN := nd_cons2 lx5 l2x5 hN (by with_unfolding_all rfl)
    replace lx5 := allLt_hd lx5
    dsimp only at lx5
    replace l2x5 : @LT.lt Nat _ _ _ := l2x5
    (try dsimp only)
    repeat' ((fail_if_success (with_reducible show wpAny _ _ (call (Value.ref _) _ _) _ _ _)); first | (k_unfold; (try dsimp only)) | (with_reducible refine stripQ ?_; k_unfold; (try dsimp only)) | (k_end; wrow_close) | walk1 | (dsimp only; walk1) | (leave1; walk_say "STEP leave1"; try dsimp only))
    rename (@Eq Data _ (Data.fields _)) => e1
    rename (@Eq (Option Value) _ (some (Value.str _ _))) => f1
    ((with_reducible rename ND _ => hN); replace hN := nd_keep [true, true, true, true, false] hN; dsimp only [keepBy] at hN); ((with_reducible rename News _ _ _ _ => nK); replace nK := news_keep [true, true, true, true, false] nK; dsimp only [keepBy] at nK)
    k_dflt (refine' heard_res (R := (lawWhole card (rf == 1) (4 + rw))) ?ybx6 ?yfx6 ?yxx6 ?ynx6 ?ytx6 ?ykx6 ?yqx6 ?yax6 ?ydx6 ?yux6 ?yrx6)
    case ybx6 => k_asm
    case yfx6 => k_asm
    case yxx6 => k_asm
    case ynx6 => k_asm
    case ytx6 => k_asm
    case ykx6 => exact rfl
    case ydx6 => (show callerA.depth + 1 + 40 < _; decide)
    case yux6 => (show callerA.units + 3 ≤ 40; decide)
    case yqx6 => (intro h₀ h L N; exact FnAt.of N (by k_mem))
    case yax6 =>
      k_dflt (refine' ask_int ?gx61 ?gx62 ?gx63 ?gx64 ?gx6c0 ?gx6e0 ?gx6c1 ?gx6e1 ?gx6c2 ?gx6e2 hL (by omega) (by omega) (whole_plain hA (by omega) (by omega)) ?gx65 ?gx66)
      case gx61 => k_mem
      case gx62 => k_mem
      case gx63 => exact e1
      case gx64 => exact f1
      case gx6c0 => k_mem
      case gx6e0 => with_reducible assumption
      case gx6c1 => k_mem
      case gx6e1 => with_reducible assumption
      case gx6c2 => k_mem
      case gx6e2 => with_reducible assumption
      case gx65 => (show callerA.depth + 1 + 1 + 26 < _; decide)
      case gx66 => (show callerA.units + 3 + 3 ≤ 70; decide)
    intro r1 tx6 t2x6 hx6 tkx6 Fx6 Nx6 lx6
    (try k_lt lx6)
    (try dsimp only)
    repeat' ((fail_if_success (with_reducible show wpAny _ _ (call (Value.ref _) _ _) _ _ _)); first | (k_unfold; (try dsimp only)) | (with_reducible refine stripQ ?_; k_unfold; (try dsimp only)) | (k_end; wrow_close) | walk1 | (dsimp only; walk1) | (leave1; walk_say "STEP leave1"; try dsimp only))
    k_dflt (refine' lwhole_ct ?ybx7 ?yfx7 ?yxx7 ?ynx7 ?ytx7 ?ykx7 (Nat.le_trans hL (by decide)) (by omega) (by omega) ?ydx7 ?yux7 ?yrx7)
    case ybx7 => k_asm
    case yfx7 => k_asm
    case yxx7 => k_asm
    case ynx7 => k_asm
    case ytx7 => k_asm
    case ykx7 => exact rfl
    case ydx7 => (show callerA.depth + 1 + 10 < _; decide)
    case yux7 => (show callerA.units + 3 ≤ 200; decide)
    intro r2 tx7 t2x7 hx7 tkx7 Fx7 Nx7 lx7
    (try k_lt lx7)
    (try dsimp only)
    repeat' ((fail_if_success (with_reducible show wpAny _ _ (call (Value.ref _) _ _) _ _ _)); first | (k_unfold; (try dsimp only)) | (with_reducible refine stripQ ?_; k_unfold; (try dsimp only)) | (k_end; wrow_close) | walk1 | (dsimp only; walk1) | (leave1; walk_say "STEP leave1"; try dsimp only))
    rename (@Eq Data _ (Data.fields _)) => e2
    rename (@Eq (Option Value) _ (some (Value.str _ _))) => f2
    ((with_reducible rename ND _ => hN); replace hN := nd_keep [true, true, false, false, false, true] hN; dsimp only [keepBy] at hN); ((with_reducible rename News _ _ _ _ => nK); replace nK := news_keep [true, true, false, false, false, true] nK; dsimp only [keepBy] at nK)
    k_dflt (refine' heard_res (R := (lawTruth card)) ?ybx8 ?yfx8 ?yxx8 ?ynx8 ?ytx8 ?ykx8 ?yqx8 ?yax8 ?ydx8 ?yux8 ?yrx8)
    case ybx8 => k_asm
    case yfx8 => k_asm
    case yxx8 => k_asm
    case ynx8 => k_asm
    case ytx8 => k_asm
    case ykx8 => exact rfl
    case ydx8 => (show callerA.depth + 1 + 40 < _; decide)
    case yux8 => (show callerA.units + 3 ≤ 40; decide)
    case yqx8 => (intro h₀ h L N; exact FnAt.of N (by k_mem))
    case yax8 =>
      k_dflt (refine' ask_log ?gx81 ?gx82 ?gx83 ?gx84 ?gx8c0 ?gx8e0 hL (fun i hi => truth_plain hi) ?gx85 ?gx86)
      case gx81 => k_mem
      case gx82 => k_mem
      case gx83 => exact e2
      case gx84 => exact f2
      case gx8c0 => k_mem
      case gx8e0 => with_reducible assumption
      case gx85 => (show callerA.depth + 1 + 1 + 26 < _; decide)
      case gx86 => (show callerA.units + 3 + 3 ≤ 70; decide)
    intro r3 tx8 t2x8 hx8 tkx8 Fx8 Nx8 lx8
    (try k_lt lx8)
    (try dsimp only)
    repeat' ((fail_if_success (with_reducible show wpAny _ _ (call (Value.ref _) _ _) _ _ _)); first | (k_unfold; (try dsimp only)) | (with_reducible refine stripQ ?_; k_unfold; (try dsimp only)) | (k_end; wrow_close) | walk1 | (dsimp only; walk1) | (leave1; walk_say "STEP leave1"; try dsimp only))
    k_dflt (refine' ltruth_ct ?ybx9 ?yfx9 ?yxx9 ?ynx9 ?ytx9 ?ykx9 (Nat.le_trans hL (by decide)) ?ydx9 ?yux9 ?yrx9)
    case ybx9 => k_asm
    case yfx9 => k_asm
    case yxx9 => k_asm
    case ynx9 => k_asm
    case ytx9 => k_asm
    case ykx9 => exact rfl
    case ydx9 => (show callerA.depth + 1 + 10 < _; decide)
    case yux9 => (show callerA.units + 3 ≤ 200; decide)
    intro r4 tx9 t2x9 hx9 tkx9 Fx9 Nx9 lx9
    (try k_lt lx9)
    (try dsimp only)
    repeat' ((fail_if_success (with_reducible show wpAny _ _ (call (Value.ref _) _ _) _ _ _)); (fail_if_success (with_reducible show wpAny _ _ (PySem.isTrue (PySem.Expr.BoolOp PySem.BoolOp.And (_ :: _ :: _) _) _ _) _ _ _)); first | (k_unfold; (try dsimp only)) | (with_reducible refine stripQ ?_; k_unfold; (try dsimp only)) | (k_end; wrow_close) | walk1 | (dsimp only; walk1) | (leave1; walk_say "STEP leave1"; try dsimp only))
    refine mono_tok ?_ fun tkT => ?_
    · rename News _ _ _ _ => nT
      obtain ⟨bT, eT⟩ | eT := truth_cases card
      · rw [eT] at nT
        dsimp only [resObj, RV.val, told] at nT
        repeat' ((fail_if_success (with_reducible show wpAny _ _ (call (Value.ref _) _ _) _ _ _)); (fail_if_success (with_reducible show _ = false ∧ _)); first | (k_unfold; (try dsimp only)) | (with_reducible refine stripQ ?_; k_unfold; (try dsimp only)) | (k_end; wrow_close) | walk1 | (dsimp only; walk1) | (leave1; walk_say "STEP leave1"; try dsimp only))
        all_goals first | exact ⟨rfl, _, rfl⟩ | exact trivial
      · rw [eT] at nT
        dsimp only [resObj, RV.val, code] at nT
        repeat' ((fail_if_success (with_reducible show wpAny _ _ (call (Value.ref _) _ _) _ _ _)); (fail_if_success (with_reducible show _ = false ∧ _)); first | (k_unfold; (try dsimp only)) | (with_reducible refine stripQ ?_; k_unfold; (try dsimp only)) | (k_end; wrow_close) | walk1 | (dsimp only; walk1) | (leave1; walk_say "STEP leave1"; try dsimp only))
        all_goals first | exact ⟨rfl, _, rfl⟩ | exact trivial
    (try dsimp only)
    repeat' ((fail_if_success (with_reducible show wpAny _ _ (call (Value.ref _) _ _) _ _ _)); first | (k_unfold; (try dsimp only)) | (with_reducible refine stripQ ?_; k_unfold; (try dsimp only)) | (k_end; wrow_close) | walk1 | (dsimp only; walk1) | (leave1; walk_say "STEP leave1"; try dsimp only))
    rename (@Eq Data _ (Data.fields _)) => e3
    rename (@Eq (Option Value) _ (some (Value.str _ _))) => f3
    ((with_reducible rename ND _ => hN); replace hN := nd_keep [true, true, false, true, false] hN; dsimp only [keepBy] at hN); ((with_reducible rename News _ _ _ _ => nK); replace nK := news_keep [true, true, false, true, false] nK; dsimp only [keepBy] at nK)
    k_dflt (refine' heard_res (R := (lawText card rl)) ?ybx10 ?yfx10 ?yxx10 ?ynx10 ?ytx10 ?ykx10 ?yqx10 ?yax10 ?ydx10 ?yux10 ?yrx10)
    case ybx10 => k_asm
    case yfx10 => k_asm
    case yxx10 => k_asm
    case ynx10 => k_asm
    case ytx10 => k_asm
    case ykx10 => exact rfl
    case ydx10 => (show callerA.depth + 1 + 40 < _; decide)
    case yux10 => (show callerA.units + 3 ≤ 40; decide)
    case yqx10 => (intro h₀ h L N; exact FnAt.of N (by k_mem))
    case yax10 =>
      k_dflt (refine' ask_text ?gx101 ?gx102 ?gx103 ?gx104 ?gx10c0 ?gx10e0 ?gx10c1 ?gx10e1 hL (by omega) (by omega) (text_plain (by omega)) ?gx105 ?gx106)
      case gx101 => k_mem
      case gx102 => k_mem
      case gx103 => exact e3
      case gx104 => exact f3
      case gx10c0 => k_mem
      case gx10e0 => with_reducible assumption
      case gx10c1 => k_mem
      case gx10e1 => with_reducible assumption
      case gx105 => (show callerA.depth + 1 + 1 + 26 < _; decide)
      case gx106 => (show callerA.units + 3 + 3 ≤ 70; decide)
    intro r5 tx10 t2x10 hx10 tkx10 Fx10 Nx10 lx10
    (try k_lt lx10)
    (try dsimp only)
    repeat' ((fail_if_success (with_reducible show wpAny _ _ (call (Value.ref _) _ _) _ _ _)); first | (k_unfold; (try dsimp only)) | (with_reducible refine stripQ ?_; k_unfold; (try dsimp only)) | (k_end; wrow_close) | walk1 | (dsimp only; walk1) | (leave1; walk_say "STEP leave1"; try dsimp only))
    k_dflt (refine' ltext_ct ?ybx11 ?yfx11 ?yxx11 ?ynx11 ?ytx11 ?ykx11 (Nat.le_trans hL (by decide)) (by omega) (by omega) ?ydx11 ?yux11 ?yrx11)
    case ybx11 => k_asm
    case yfx11 => k_asm
    case yxx11 => k_asm
    case ynx11 => k_asm
    case ytx11 => k_asm
    case ykx11 => exact rfl
    case ydx11 => (show callerA.depth + 1 + 10 < _; decide)
    case yux11 => (show callerA.units + 3 ≤ 200; decide)
    intro r6 tx11 t2x11 hx11 tkx11 Fx11 Nx11 lx11
    (try k_lt lx11)
    (try dsimp only)
    repeat' ((fail_if_success (with_reducible show wpAny _ _ (call (Value.ref _) _ _) _ _ _)); first | (k_unfold; (try dsimp only)) | (with_reducible refine stripQ ?_; k_unfold; (try dsimp only)) | (k_end; wrow_close) | walk1 | (dsimp only; walk1) | (leave1; walk_say "STEP leave1"; try dsimp only))
    ((with_reducible rename ND _ => hN); replace hN := nd_keep [true, false, false, false, true] hN; dsimp only [keepBy] at hN); ((with_reducible rename News _ _ _ _ => nK); replace nK := news_keep [true, false, false, false, true] nK; dsimp only [keepBy] at nK)
    k_dflt (refine' lwhole_ct ?ybx12 ?yfx12 ?yxx12 ?ynx12 ?ytx12 ?ykx12 (Nat.le_trans hL (by decide)) (by omega) (by omega) ?ydx12 ?yux12 ?yrx12)
    case ybx12 => k_asm
    case yfx12 => k_asm
    case yxx12 => k_asm
    case ynx12 => k_asm
    case ytx12 => k_asm
    case ykx12 => exact rfl
    case ydx12 => (show callerA.depth + 1 + 10 < _; decide)
    case yux12 => (show callerA.units + 3 ≤ 200; decide)
    intro r7 tx12 t2x12 hx12 tkx12 Fx12 Nx12 lx12
    (try k_lt lx12)
    (try dsimp only)
    repeat' ((fail_if_success (with_reducible show wpAny _ _ (call (Value.ref _) _ _) _ _ _)); first | (k_unfold; (try dsimp only)) | (with_reducible refine stripQ ?_; k_unfold; (try dsimp only)) | (k_end; wrow_close) | walk1 | (dsimp only; walk1) | (leave1; walk_say "STEP leave1"; try dsimp only))
    k_dflt (refine' ltext_ct ?ybx13 ?yfx13 ?yxx13 ?ynx13 ?ytx13 ?ykx13 (Nat.le_trans hL (by decide)) (by omega) (by omega) ?ydx13 ?yux13 ?yrx13)
    case ybx13 => k_asm
    case yfx13 => k_asm
    case yxx13 => k_asm
    case ynx13 => k_asm
    case ytx13 => k_asm
    case ykx13 => exact rfl
    case ydx13 => (show callerA.depth + 1 + 10 < _; decide)
    case yux13 => (show callerA.units + 3 ≤ 200; decide)
    intro r8 tx13 t2x13 hx13 tkx13 Fx13 Nx13 lx13
    (try k_lt lx13)
    (try dsimp only)
    repeat' ((fail_if_success (with_reducible show wpAny _ _ (call (Value.ref _) _ _) _ _ _)); first | (k_unfold; (try dsimp only)) | (with_reducible refine stripQ ?_; k_unfold; (try dsimp only)) | (k_end; wrow_close) | walk1 | (dsimp only; walk1) | (leave1; walk_say "STEP leave1"; try dsimp only))
    rename (@Eq Data _ (Data.fields _)) => e4
    rename (@Eq (Option Value) _ (some (Value.str _ _))) => f4
    k_dflt (refine' heard_res (R := (lawWhole card (rf == 1) (4 + rw))) ?ybx14 ?yfx14 ?yxx14 ?ynx14 ?ytx14 ?ykx14 ?yqx14 ?yax14 ?ydx14 ?yux14 ?yrx14)
    case ybx14 => k_asm
    case yfx14 => k_asm
    case yxx14 => k_asm
    case ynx14 => k_asm
    case ytx14 => k_asm
    case ykx14 => exact rfl
    case ydx14 => (show callerA.depth + 1 + 40 < _; decide)
    case yux14 => (show callerA.units + 3 ≤ 40; decide)
    case yqx14 => (intro h₀ h L N; exact FnAt.of N (by k_mem))
    case yax14 =>
      k_dflt (refine' ask_valI ?gx141 ?gx142 ?gx143 ?gx144 ?gx14c0 ?gx14e0 ?gx14c1 ?gx14e1 ?gx14c2 ?gx14e2 ?gx14c3 ?gx14e3 ?gx14c4 ?gx14e4 ?gx14c5 ?gx14e5 hL ?gx14i ?gx14l ?gx14d (by omega) (by omega) (whole_plain hA (by omega) (by omega)) ?gx145 ?gx146)
      case gx141 => k_mem
      case gx142 => k_mem
      case gx143 => exact e4
      case gx144 => exact f4
      case gx14c0 => k_mem
      case gx14e0 => with_reducible assumption
      case gx14c1 => k_mem
      case gx14e1 => with_reducible assumption
      case gx14c2 => k_mem
      case gx14e2 => with_reducible assumption
      case gx14c3 => k_mem
      case gx14e3 => with_reducible assumption
      case gx14c4 => k_mem
      case gx14e4 => with_reducible assumption
      case gx14c5 => k_mem
      case gx14e5 => with_reducible assumption
      case gx145 => (show callerA.depth + 1 + 1 + 26 < _; decide)
      case gx146 => (show callerA.units + 3 + 3 ≤ 70; decide)
      case gx14i => k_mem
      case gx14l => k_mem
      case gx14d => k_mem
    intro r9 tx14 t2x14 hx14 tkx14 Fx14 Nx14 lx14
    (try k_lt lx14)
    (try dsimp only)
    ((with_reducible rename ND _ => hN); replace hN := nd_front 3 hN; dsimp only [List.eraseIdx] at hN)
    repeat' ((fail_if_success (with_reducible show wpAny _ _ (call (Value.ref _) _ _) _ _ _)); first | (k_unfold; (try dsimp only)) | (with_reducible refine stripQ ?_; k_unfold; (try dsimp only)) | (k_end; wrow_close) | walk1 | (dsimp only; walk1) | (leave1; walk_say "STEP leave1"; try dsimp only))
    ((with_reducible rename ND _ => hN); replace hN := nd_keep [true, true, false, false] hN; dsimp only [keepBy] at hN); ((with_reducible rename News _ _ _ _ => nK); replace nK := news_keep [true, true, false, false] nK; dsimp only [keepBy] at nK)
    k_dflt (refine' heard_res (R := (lawTruth card)) ?ybx15 ?yfx15 ?yxx15 ?ynx15 ?ytx15 ?ykx15 ?yqx15 ?yax15 ?ydx15 ?yux15 ?yrx15)
    case ybx15 => k_asm
    case yfx15 => k_asm
    case yxx15 => k_asm
    case ynx15 => k_asm
    case ytx15 => k_asm
    case ykx15 => exact rfl
    case ydx15 => (show callerA.depth + 1 + 40 < _; decide)
    case yux15 => (show callerA.units + 3 ≤ 40; decide)
    case yqx15 => (intro h₀ h L N; exact FnAt.of N (by k_mem))
    case yax15 =>
      k_dflt (refine' ask_valL ?gx151 ?gx152 ?gx153 ?gx154 ?gx15c0 ?gx15e0 ?gx15c1 ?gx15e1 ?gx15c2 ?gx15e2 ?gx15c3 ?gx15e3 ?gx15c4 ?gx15e4 ?gx15c5 ?gx15e5 hL ?gx15i (fun i hi => truth_plain hi) ?gx155 ?gx156)
      case gx151 => k_mem
      case gx152 => k_mem
      case gx153 => exact e4
      case gx154 => exact f4
      case gx15c0 => k_mem
      case gx15e0 => with_reducible assumption
      case gx15c1 => k_mem
      case gx15e1 => with_reducible assumption
      case gx15c2 => k_mem
      case gx15e2 => with_reducible assumption
      case gx15c3 => k_mem
      case gx15e3 => with_reducible assumption
      case gx15c4 => k_mem
      case gx15e4 => with_reducible assumption
      case gx15c5 => k_mem
      case gx15e5 => with_reducible assumption
      case gx155 => (show callerA.depth + 1 + 1 + 26 < _; decide)
      case gx156 => (show callerA.units + 3 + 3 ≤ 70; decide)
      case gx15i => k_mem
    intro r10 tx15 t2x15 hx15 tkx15 Fx15 Nx15 lx15
    (try k_lt lx15)
    (try dsimp only)
    ((with_reducible rename ND _ => hN); replace hN := nd_front 2 hN; dsimp only [List.eraseIdx] at hN)
    repeat' ((fail_if_success (with_reducible show wpAny _ _ (call (Value.ref _) _ _) _ _ _)); first | (k_unfold; (try dsimp only)) | (with_reducible refine stripQ ?_; k_unfold; (try dsimp only)) | (k_end; wrow_close) | walk1 | (dsimp only; walk1) | (leave1; walk_say "STEP leave1"; try dsimp only))
    ((with_reducible rename ND _ => hN); replace hN := nd_keep [true, true, false, false] hN; dsimp only [keepBy] at hN); ((with_reducible rename News _ _ _ _ => nK); replace nK := news_keep [true, true, false, false] nK; dsimp only [keepBy] at nK)
    k_dflt (refine' heard_res (R := (lawText card rl)) ?ybx16 ?yfx16 ?yxx16 ?ynx16 ?ytx16 ?ykx16 ?yqx16 ?yax16 ?ydx16 ?yux16 ?yrx16)
    case ybx16 => k_asm
    case yfx16 => k_asm
    case yxx16 => k_asm
    case ynx16 => k_asm
    case ytx16 => k_asm
    case ykx16 => exact rfl
    case ydx16 => (show callerA.depth + 1 + 40 < _; decide)
    case yux16 => (show callerA.units + 3 ≤ 40; decide)
    case yqx16 => (intro h₀ h L N; exact FnAt.of N (by k_mem))
    case yax16 =>
      k_dflt (refine' ask_valA ?gx161 ?gx162 ?gx163 ?gx164 ?gx16c0 ?gx16e0 ?gx16c1 ?gx16e1 ?gx16c2 ?gx16e2 ?gx16c3 ?gx16e3 ?gx16c4 ?gx16e4 ?gx16c5 ?gx16e5 hL ?gx16i (by omega) (by omega) (text_plain (by omega)) ?gx165 ?gx166)
      case gx161 => k_mem
      case gx162 => k_mem
      case gx163 => exact e4
      case gx164 => exact f4
      case gx16c0 => k_mem
      case gx16e0 => with_reducible assumption
      case gx16c1 => k_mem
      case gx16e1 => with_reducible assumption
      case gx16c2 => k_mem
      case gx16e2 => with_reducible assumption
      case gx16c3 => k_mem
      case gx16e3 => with_reducible assumption
      case gx16c4 => k_mem
      case gx16e4 => with_reducible assumption
      case gx16c5 => k_mem
      case gx16e5 => with_reducible assumption
      case gx165 => (show callerA.depth + 1 + 1 + 26 < _; decide)
      case gx166 => (show callerA.units + 3 + 3 ≤ 70; decide)
      case gx16i => k_mem
    intro r11 tx16 t2x16 hx16 tkx16 Fx16 Nx16 lx16
    (try k_lt lx16)
    (try dsimp only)
    ((with_reducible rename ND _ => hN); replace hN := nd_front 2 hN; dsimp only [List.eraseIdx] at hN)
    repeat' ((fail_if_success (with_reducible show wpAny _ _ (call (Value.ref _) _ _) _ _ _)); (fail_if_success (with_reducible show UnrPost _ _ _ _ _ _ _ _ _)); first | (k_unfold; (try dsimp only)) | (with_reducible refine stripQ ?_; k_unfold; (try dsimp only)) | (k_end; wrow_close) | walk1 | (dsimp only; walk1) | (leave1; walk_say "STEP leave1"; try dsimp only))
    ((with_reducible rename ND _ => hN); replace hN := nd_keep [false] hN; dsimp only [keepBy] at hN)
    dsimp only [UnrPost]
    (with_reducible rename ND _ => hN); refine unr_end [false, false, true, false, false, false, false, false, false, false, false, false, true, false, true, true, false, false, false] (by k_asm) (by k_asm) ?eI (off_mask [false, false, true, false, false, false, false, false, false, false, false, false, true, false, true, true, false, false, false] 18 hN (by with_unfolding_all rfl) rfl rfl) ?er
    case eI => k_mem
    case er =>
      dsimp only [keepBy]
      refine' Ready.intro (cup_map ?q1) ?q2 hcupx4 ?q3 ?q4 ?u1 ?u2 ?u3 ?u4 ?u5 ?u6 ?u7 e1 f1 e2 f2 e3 f3 e4 f4 ?g1 ?g2 ?g3 ?g4
      case q2 => exact rfl
      case q1 => exact rfl
      case q3 => omega
      case q4 => omega
      case u1 => with_reducible assumption
      case u2 => with_reducible assumption
      case u3 => with_reducible assumption
      case u4 => with_reducible assumption
      case u5 => with_reducible assumption
      case u6 => with_reducible assumption
      case u7 => with_reducible assumption
      case g1 => omega
      case g2 => omega
      case g3 => omega
      case g4 => omega
  case t1 =>
    intro hDd Q9 E9 s9 hpo i9 m' o9 k9 t29 w1 w2 w3 w4 w5 w6 w7 v1 v2 v3 v4 v5 v6 v7 c1 c2 c3 c4 b1 b2 b3 b4 z1 z2 z3 z4 y1 y2 y3 y4 hi9 hj9 hcup hk0 hk1 d1 d2 d3 d4 d5 d6 d7 e1 f1 e2 f2 e3 f3 e4 f4 l1 l2 l3 l4 t9 h9 tk9 F9 N9
    have hN := nd_start N9 (by dsimp only [List.map]; simp only [Down, and_true]; (repeat' apply And.intro) <;> omega)
    dsimp only [List.map] at hN
    repeat' ((fail_if_success (with_reducible show wpAny _ _ (call (Value.ref _) _ _) _ _ _)); first | (k_unfold; (try dsimp only)) | (with_reducible refine stripQ ?_; k_unfold; (try dsimp only)) | (k_end; wrow_close) | walk1 | (dsimp only; walk1) | (leave1; walk_say "STEP leave1"; try dsimp only))
    k_dflt (refine' card_u ?ybx17 ?yfx17 ?yxx17 ?ynx17 ?ytx17 ?ykx17 ?yUx17 ?ymx17 hcup ?yix17 ?ylx17 ?yax17 (by omega) (by omega) ?ydx17 ?yux17 ?yrx17)
    case ybx17 => k_asm
    case yfx17 => k_asm
    case yxx17 => k_asm
    case ynx17 => k_asm
    case ytx17 => k_asm
    case ykx17 => exact rfl
    case yUx17 => k_updF
    case ymx17 => k_mem
    case yix17 => with_reducible assumption
    case ylx17 => (simp only [List.length_take]; omega)
    case yax17 => exact hDd
    case ydx17 => (show callerA.depth + 1 + _ < _; decide)
    case yux17 => (show callerA.units + 3 ≤ _; decide)
    intro card tx17 ox17 t2x17 kx17 hx17 tkx17 hA hL hkx17 hk9x17 hcupx17 Fx17 Nx17
    (try dsimp only at Nx17)
    (try dsimp only)
    repeat' ((fail_if_success (with_reducible show wpAny _ _ (call (Value.ref _) _ _) _ _ _)); first | (k_unfold; (try dsimp only)) | (with_reducible refine stripQ ?_; k_unfold; (try dsimp only)) | (k_end; wrow_close) | walk1 | (dsimp only; walk1) | (leave1; walk_say "STEP leave1"; try dsimp only))
    k_dflt (refine' shake_u ?ybx18 ?yfx18 ?yxx18 ?ynx18 ?ytx18 ?ykx18 ?yUx18 ?ymx18 hcupx17 ?yix18 ?ylx18 ?yax18 (by omega) (by omega) (by decide) (by decide) ?ydx18 ?yux18 ?yrx18)
    case ybx18 => k_asm
    case yfx18 => k_asm
    case yxx18 => k_asm
    case ynx18 => k_asm
    case ytx18 => k_asm
    case ykx18 => exact rfl
    case yUx18 => k_updF
    case ymx18 => k_mem
    case yix18 => with_reducible assumption
    case ylx18 => (simp only [List.length_take]; omega)
    case yax18 => exact hDd
    case ydx18 => (show callerA.depth + 1 + _ < _; decide)
    case yux18 => (show callerA.units + 3 ≤ _; decide)
    intro rf tx18 t2x18 ox18 hx18 tkx18 hrx18 hr9x18 hcupx18 Fx18 Nx18
    (try dsimp only at Nx18)
    (try dsimp only)
    repeat' ((fail_if_success (with_reducible show wpAny _ _ (call (Value.ref _) _ _) _ _ _)); first | (k_unfold; (try dsimp only)) | (with_reducible refine stripQ ?_; k_unfold; (try dsimp only)) | (k_end; wrow_close) | walk1 | (dsimp only; walk1) | (leave1; walk_say "STEP leave1"; try dsimp only))
    k_dflt (refine' shake_u ?ybx19 ?yfx19 ?yxx19 ?ynx19 ?ytx19 ?ykx19 ?yUx19 ?ymx19 hcupx18 ?yix19 ?ylx19 ?yax19 (by omega) (by omega) (by decide) (by decide) ?ydx19 ?yux19 ?yrx19)
    case ybx19 => k_asm
    case yfx19 => k_asm
    case yxx19 => k_asm
    case ynx19 => k_asm
    case ytx19 => k_asm
    case ykx19 => exact rfl
    case yUx19 => k_updF
    case ymx19 => k_mem
    case yix19 => with_reducible assumption
    case ylx19 => (simp only [List.length_take]; omega)
    case yax19 => exact hDd
    case ydx19 => (show callerA.depth + 1 + _ < _; decide)
    case yux19 => (show callerA.units + 3 ≤ _; decide)
    intro rw tx19 t2x19 ox19 hx19 tkx19 hrx19 hr9x19 hcupx19 Fx19 Nx19
    (try dsimp only at Nx19)
    (try dsimp only)
    repeat' ((fail_if_success (with_reducible show wpAny _ _ (call (Value.ref _) _ _) _ _ _)); first | (k_unfold; (try dsimp only)) | (with_reducible refine stripQ ?_; k_unfold; (try dsimp only)) | (k_end; wrow_close) | walk1 | (dsimp only; walk1) | (leave1; walk_say "STEP leave1"; try dsimp only))
    k_dflt (refine' shake_u ?ybx20 ?yfx20 ?yxx20 ?ynx20 ?ytx20 ?ykx20 ?yUx20 ?ymx20 hcupx19 ?yix20 ?ylx20 ?yax20 (by omega) (by omega) (by decide) (by decide) ?ydx20 ?yux20 ?yrx20)
    case ybx20 => k_asm
    case yfx20 => k_asm
    case yxx20 => k_asm
    case ynx20 => k_asm
    case ytx20 => k_asm
    case ykx20 => exact rfl
    case yUx20 => k_updF
    case ymx20 => k_mem
    case yix20 => with_reducible assumption
    case ylx20 => (simp only [List.length_take]; omega)
    case yax20 => exact hDd
    case ydx20 => (show callerA.depth + 1 + _ < _; decide)
    case yux20 => (show callerA.units + 3 ≤ _; decide)
    intro rl tx20 t2x20 ox20 hx20 tkx20 hrx20 hr9x20 hcupx20 Fx20 Nx20
    (try dsimp only at Nx20)
    (try dsimp only)
    repeat' ((fail_if_success (with_reducible show wpAny _ _ (call (Value.ref _) _ _) _ _ _)); first | (k_unfold; (try dsimp only)) | (with_reducible refine stripQ ?_; k_unfold; (try dsimp only)) | (k_end; wrow_close) | walk1 | (dsimp only; walk1) | (leave1; walk_say "STEP leave1"; try dsimp only))
    k_dflt (refine' limits_ct (n := 4 + rw) ?ybx21 ?yfx21 ?yxx21 ?ynx21 ?ytx21 ?ykx21 (by omega) (by omega) ?ydx21 ?yux21 ?yrx21)
    case ybx21 => k_asm
    case yfx21 => k_asm
    case yxx21 => k_asm
    case ynx21 => k_asm
    case ytx21 => k_asm
    case ykx21 => exact rfl
    case ydx21 => (show callerA.depth + 1 + _ < _; decide)
    case yux21 => (show callerA.units + 3 ≤ _; decide)
    intro lim dx21 q0x21 q1x21 q2x21 q3x21 q4x21 q5x21 q6x21 q7x21 q8x21 q9x21 q10x21 q11x21 q12x21 q13x21 q14x21 q15x21 hx21 tkx21 Fx21 Nx21 lx21 l2x21
    (with_reducible rename ND _ => hN)
    replace hN := nd_cons2 lx21 l2x21 hN (by with_unfolding_all rfl)
    replace lx21 := allLt_hd lx21
    dsimp only at lx21
    replace l2x21 : @LT.lt Nat _ _ _ := l2x21
    (try dsimp only)
    repeat' ((fail_if_success (with_reducible show wpAny _ _ (call (Value.ref _) _ _) _ _ _)); first | (k_unfold; (try dsimp only)) | (with_reducible refine stripQ ?_; k_unfold; (try dsimp only)) | (k_end; wrow_close) | walk1 | (dsimp only; walk1) | (leave1; walk_say "STEP leave1"; try dsimp only))
    ((with_reducible rename ND _ => hN); replace hN := nd_keep [true, true, true, false] hN; dsimp only [keepBy] at hN); ((with_reducible rename News _ _ _ _ => nK); replace nK := news_keep [true, true, true, false] nK; dsimp only [keepBy] at nK)
    k_dflt (refine' heard_res (R := (lawWhole card (rf == 1) (4 + rw))) ?ybx22 ?yfx22 ?yxx22 ?ynx22 ?ytx22 ?ykx22 ?yqx22 ?yax22 ?ydx22 ?yux22 ?yrx22)
    case ybx22 => k_asm
    case yfx22 => k_asm
    case yxx22 => k_asm
    case ynx22 => k_asm
    case ytx22 => k_asm
    case ykx22 => exact rfl
    case ydx22 => (show callerA.depth + 1 + 40 < _; decide)
    case yux22 => (show callerA.units + 3 ≤ 40; decide)
    case yqx22 => (intro h₀ h L N; exact FnAt.of N (by k_mem))
    case yax22 =>
      k_dflt (refine' ask_int ?gx221 ?gx222 ?gx223 ?gx224 ?gx22c0 ?gx22e0 ?gx22c1 ?gx22e1 ?gx22c2 ?gx22e2 hL (by omega) (by omega) (whole_plain hA (by omega) (by omega)) ?gx225 ?gx226)
      case gx221 => k_mem
      case gx222 => k_mem
      case gx223 => exact e1
      case gx224 => exact f1
      case gx22c0 => k_mem
      case gx22e0 => with_reducible assumption
      case gx22c1 => k_mem
      case gx22e1 => with_reducible assumption
      case gx22c2 => k_mem
      case gx22e2 => with_reducible assumption
      case gx225 => (show callerA.depth + 1 + 1 + 26 < _; decide)
      case gx226 => (show callerA.units + 3 + 3 ≤ 70; decide)
    intro r1 tx22 t2x22 hx22 tkx22 Fx22 Nx22 lx22
    (try k_lt lx22)
    (try dsimp only)
    repeat' ((fail_if_success (with_reducible show wpAny _ _ (call (Value.ref _) _ _) _ _ _)); first | (k_unfold; (try dsimp only)) | (with_reducible refine stripQ ?_; k_unfold; (try dsimp only)) | (k_end; wrow_close) | walk1 | (dsimp only; walk1) | (leave1; walk_say "STEP leave1"; try dsimp only))
    k_dflt (refine' lwhole_ct ?ybx23 ?yfx23 ?yxx23 ?ynx23 ?ytx23 ?ykx23 (Nat.le_trans hL (by decide)) (by omega) (by omega) ?ydx23 ?yux23 ?yrx23)
    case ybx23 => k_asm
    case yfx23 => k_asm
    case yxx23 => k_asm
    case ynx23 => k_asm
    case ytx23 => k_asm
    case ykx23 => exact rfl
    case ydx23 => (show callerA.depth + 1 + 10 < _; decide)
    case yux23 => (show callerA.units + 3 ≤ 200; decide)
    intro r2 tx23 t2x23 hx23 tkx23 Fx23 Nx23 lx23
    (try k_lt lx23)
    (try dsimp only)
    repeat' ((fail_if_success (with_reducible show wpAny _ _ (call (Value.ref _) _ _) _ _ _)); first | (k_unfold; (try dsimp only)) | (with_reducible refine stripQ ?_; k_unfold; (try dsimp only)) | (k_end; wrow_close) | walk1 | (dsimp only; walk1) | (leave1; walk_say "STEP leave1"; try dsimp only))
    ((with_reducible rename ND _ => hN); replace hN := nd_keep [true, false, false, false] hN; dsimp only [keepBy] at hN); ((with_reducible rename News _ _ _ _ => nK); replace nK := news_keep [true, false, false, false] nK; dsimp only [keepBy] at nK)
    k_dflt (refine' heard_res (R := (lawTruth card)) ?ybx24 ?yfx24 ?yxx24 ?ynx24 ?ytx24 ?ykx24 ?yqx24 ?yax24 ?ydx24 ?yux24 ?yrx24)
    case ybx24 => k_asm
    case yfx24 => k_asm
    case yxx24 => k_asm
    case ynx24 => k_asm
    case ytx24 => k_asm
    case ykx24 => exact rfl
    case ydx24 => (show callerA.depth + 1 + 40 < _; decide)
    case yux24 => (show callerA.units + 3 ≤ 40; decide)
    case yqx24 => (intro h₀ h L N; exact FnAt.of N (by k_mem))
    case yax24 =>
      k_dflt (refine' ask_log ?gx241 ?gx242 ?gx243 ?gx244 ?gx24c0 ?gx24e0 hL (fun i hi => truth_plain hi) ?gx245 ?gx246)
      case gx241 => k_mem
      case gx242 => k_mem
      case gx243 => exact e2
      case gx244 => exact f2
      case gx24c0 => k_mem
      case gx24e0 => with_reducible assumption
      case gx245 => (show callerA.depth + 1 + 1 + 26 < _; decide)
      case gx246 => (show callerA.units + 3 + 3 ≤ 70; decide)
    intro r3 tx24 t2x24 hx24 tkx24 Fx24 Nx24 lx24
    (try k_lt lx24)
    (try dsimp only)
    repeat' ((fail_if_success (with_reducible show wpAny _ _ (call (Value.ref _) _ _) _ _ _)); first | (k_unfold; (try dsimp only)) | (with_reducible refine stripQ ?_; k_unfold; (try dsimp only)) | (k_end; wrow_close) | walk1 | (dsimp only; walk1) | (leave1; walk_say "STEP leave1"; try dsimp only))
    k_dflt (refine' ltruth_ct ?ybx25 ?yfx25 ?yxx25 ?ynx25 ?ytx25 ?ykx25 (Nat.le_trans hL (by decide)) ?ydx25 ?yux25 ?yrx25)
    case ybx25 => k_asm
    case yfx25 => k_asm
    case yxx25 => k_asm
    case ynx25 => k_asm
    case ytx25 => k_asm
    case ykx25 => exact rfl
    case ydx25 => (show callerA.depth + 1 + 10 < _; decide)
    case yux25 => (show callerA.units + 3 ≤ 200; decide)
    intro r4 tx25 t2x25 hx25 tkx25 Fx25 Nx25 lx25
    (try k_lt lx25)
    (try dsimp only)
    repeat' ((fail_if_success (with_reducible show wpAny _ _ (call (Value.ref _) _ _) _ _ _)); (fail_if_success (with_reducible show wpAny _ _ (PySem.isTrue (PySem.Expr.BoolOp PySem.BoolOp.And (_ :: _ :: _) _) _ _) _ _ _)); first | (k_unfold; (try dsimp only)) | (with_reducible refine stripQ ?_; k_unfold; (try dsimp only)) | (k_end; wrow_close) | walk1 | (dsimp only; walk1) | (leave1; walk_say "STEP leave1"; try dsimp only))
    refine mono_tok ?_ fun tkT => ?_
    · rename News _ _ _ _ => nT
      obtain ⟨bT, eT⟩ | eT := truth_cases card
      · rw [eT] at nT
        dsimp only [resObj, RV.val, told] at nT
        repeat' ((fail_if_success (with_reducible show wpAny _ _ (call (Value.ref _) _ _) _ _ _)); (fail_if_success (with_reducible show _ = false ∧ _)); first | (k_unfold; (try dsimp only)) | (with_reducible refine stripQ ?_; k_unfold; (try dsimp only)) | (k_end; wrow_close) | walk1 | (dsimp only; walk1) | (leave1; walk_say "STEP leave1"; try dsimp only))
        all_goals first | exact ⟨rfl, _, rfl⟩ | exact trivial
      · rw [eT] at nT
        dsimp only [resObj, RV.val, code] at nT
        repeat' ((fail_if_success (with_reducible show wpAny _ _ (call (Value.ref _) _ _) _ _ _)); (fail_if_success (with_reducible show _ = false ∧ _)); first | (k_unfold; (try dsimp only)) | (with_reducible refine stripQ ?_; k_unfold; (try dsimp only)) | (k_end; wrow_close) | walk1 | (dsimp only; walk1) | (leave1; walk_say "STEP leave1"; try dsimp only))
        all_goals first | exact ⟨rfl, _, rfl⟩ | exact trivial
    (try dsimp only)
    repeat' ((fail_if_success (with_reducible show wpAny _ _ (call (Value.ref _) _ _) _ _ _)); first | (k_unfold; (try dsimp only)) | (with_reducible refine stripQ ?_; k_unfold; (try dsimp only)) | (k_end; wrow_close) | walk1 | (dsimp only; walk1) | (leave1; walk_say "STEP leave1"; try dsimp only))
    ((with_reducible rename ND _ => hN); replace hN := nd_keep [true, false, true, false] hN; dsimp only [keepBy] at hN); ((with_reducible rename News _ _ _ _ => nK); replace nK := news_keep [true, false, true, false] nK; dsimp only [keepBy] at nK)
    k_dflt (refine' heard_res (R := (lawText card rl)) ?ybx26 ?yfx26 ?yxx26 ?ynx26 ?ytx26 ?ykx26 ?yqx26 ?yax26 ?ydx26 ?yux26 ?yrx26)
    case ybx26 => k_asm
    case yfx26 => k_asm
    case yxx26 => k_asm
    case ynx26 => k_asm
    case ytx26 => k_asm
    case ykx26 => exact rfl
    case ydx26 => (show callerA.depth + 1 + 40 < _; decide)
    case yux26 => (show callerA.units + 3 ≤ 40; decide)
    case yqx26 => (intro h₀ h L N; exact FnAt.of N (by k_mem))
    case yax26 =>
      k_dflt (refine' ask_text ?gx261 ?gx262 ?gx263 ?gx264 ?gx26c0 ?gx26e0 ?gx26c1 ?gx26e1 hL (by omega) (by omega) (text_plain (by omega)) ?gx265 ?gx266)
      case gx261 => k_mem
      case gx262 => k_mem
      case gx263 => exact e3
      case gx264 => exact f3
      case gx26c0 => k_mem
      case gx26e0 => with_reducible assumption
      case gx26c1 => k_mem
      case gx26e1 => with_reducible assumption
      case gx265 => (show callerA.depth + 1 + 1 + 26 < _; decide)
      case gx266 => (show callerA.units + 3 + 3 ≤ 70; decide)
    intro r5 tx26 t2x26 hx26 tkx26 Fx26 Nx26 lx26
    (try k_lt lx26)
    (try dsimp only)
    repeat' ((fail_if_success (with_reducible show wpAny _ _ (call (Value.ref _) _ _) _ _ _)); first | (k_unfold; (try dsimp only)) | (with_reducible refine stripQ ?_; k_unfold; (try dsimp only)) | (k_end; wrow_close) | walk1 | (dsimp only; walk1) | (leave1; walk_say "STEP leave1"; try dsimp only))
    k_dflt (refine' ltext_ct ?ybx27 ?yfx27 ?yxx27 ?ynx27 ?ytx27 ?ykx27 (Nat.le_trans hL (by decide)) (by omega) (by omega) ?ydx27 ?yux27 ?yrx27)
    case ybx27 => k_asm
    case yfx27 => k_asm
    case yxx27 => k_asm
    case ynx27 => k_asm
    case ytx27 => k_asm
    case ykx27 => exact rfl
    case ydx27 => (show callerA.depth + 1 + 10 < _; decide)
    case yux27 => (show callerA.units + 3 ≤ 200; decide)
    intro r6 tx27 t2x27 hx27 tkx27 Fx27 Nx27 lx27
    (try k_lt lx27)
    (try dsimp only)
    repeat' ((fail_if_success (with_reducible show wpAny _ _ (call (Value.ref _) _ _) _ _ _)); first | (k_unfold; (try dsimp only)) | (with_reducible refine stripQ ?_; k_unfold; (try dsimp only)) | (k_end; wrow_close) | walk1 | (dsimp only; walk1) | (leave1; walk_say "STEP leave1"; try dsimp only))
    ((with_reducible rename ND _ => hN); replace hN := nd_keep [true, false, false, false] hN; dsimp only [keepBy] at hN); ((with_reducible rename News _ _ _ _ => nK); replace nK := news_keep [true, false, false, false] nK; dsimp only [keepBy] at nK)
    k_dflt (refine' lwhole_ct ?ybx28 ?yfx28 ?yxx28 ?ynx28 ?ytx28 ?ykx28 (Nat.le_trans hL (by decide)) (by omega) (by omega) ?ydx28 ?yux28 ?yrx28)
    case ybx28 => k_asm
    case yfx28 => k_asm
    case yxx28 => k_asm
    case ynx28 => k_asm
    case ytx28 => k_asm
    case ykx28 => exact rfl
    case ydx28 => (show callerA.depth + 1 + 10 < _; decide)
    case yux28 => (show callerA.units + 3 ≤ 200; decide)
    intro r7 tx28 t2x28 hx28 tkx28 Fx28 Nx28 lx28
    (try k_lt lx28)
    (try dsimp only)
    repeat' ((fail_if_success (with_reducible show wpAny _ _ (call (Value.ref _) _ _) _ _ _)); first | (k_unfold; (try dsimp only)) | (with_reducible refine stripQ ?_; k_unfold; (try dsimp only)) | (k_end; wrow_close) | walk1 | (dsimp only; walk1) | (leave1; walk_say "STEP leave1"; try dsimp only))
    k_dflt (refine' ltext_ct ?ybx29 ?yfx29 ?yxx29 ?ynx29 ?ytx29 ?ykx29 (Nat.le_trans hL (by decide)) (by omega) (by omega) ?ydx29 ?yux29 ?yrx29)
    case ybx29 => k_asm
    case yfx29 => k_asm
    case yxx29 => k_asm
    case ynx29 => k_asm
    case ytx29 => k_asm
    case ykx29 => exact rfl
    case ydx29 => (show callerA.depth + 1 + 10 < _; decide)
    case yux29 => (show callerA.units + 3 ≤ 200; decide)
    intro r8 tx29 t2x29 hx29 tkx29 Fx29 Nx29 lx29
    (try k_lt lx29)
    (try dsimp only)
    repeat' ((fail_if_success (with_reducible show wpAny _ _ (call (Value.ref _) _ _) _ _ _)); first | (k_unfold; (try dsimp only)) | (with_reducible refine stripQ ?_; k_unfold; (try dsimp only)) | (k_end; wrow_close) | walk1 | (dsimp only; walk1) | (leave1; walk_say "STEP leave1"; try dsimp only))
    k_dflt (refine' heard_res (R := (lawWhole card (rf == 1) (4 + rw))) ?ybx30 ?yfx30 ?yxx30 ?ynx30 ?ytx30 ?ykx30 ?yqx30 ?yax30 ?ydx30 ?yux30 ?yrx30)
    case ybx30 => k_asm
    case yfx30 => k_asm
    case yxx30 => k_asm
    case ynx30 => k_asm
    case ytx30 => k_asm
    case ykx30 => exact rfl
    case ydx30 => (show callerA.depth + 1 + 40 < _; decide)
    case yux30 => (show callerA.units + 3 ≤ 40; decide)
    case yqx30 => (intro h₀ h L N; exact FnAt.of N (by k_mem))
    case yax30 =>
      k_dflt (refine' ask_valI ?gx301 ?gx302 ?gx303 ?gx304 ?gx30c0 ?gx30e0 ?gx30c1 ?gx30e1 ?gx30c2 ?gx30e2 ?gx30c3 ?gx30e3 ?gx30c4 ?gx30e4 ?gx30c5 ?gx30e5 hL ?gx30i ?gx30l ?gx30d (by omega) (by omega) (whole_plain hA (by omega) (by omega)) ?gx305 ?gx306)
      case gx301 => k_mem
      case gx302 => k_mem
      case gx303 => exact e4
      case gx304 => exact f4
      case gx30c0 => k_mem
      case gx30e0 => with_reducible assumption
      case gx30c1 => k_mem
      case gx30e1 => with_reducible assumption
      case gx30c2 => k_mem
      case gx30e2 => with_reducible assumption
      case gx30c3 => k_mem
      case gx30e3 => with_reducible assumption
      case gx30c4 => k_mem
      case gx30e4 => with_reducible assumption
      case gx30c5 => k_mem
      case gx30e5 => with_reducible assumption
      case gx305 => (show callerA.depth + 1 + 1 + 26 < _; decide)
      case gx306 => (show callerA.units + 3 + 3 ≤ 70; decide)
      case gx30i => k_mem
      case gx30l => k_mem
      case gx30d => k_mem
    intro r9 tx30 t2x30 hx30 tkx30 Fx30 Nx30 lx30
    (try k_lt lx30)
    (try dsimp only)
    ((with_reducible rename ND _ => hN); replace hN := nd_front 2 hN; dsimp only [List.eraseIdx] at hN)
    repeat' ((fail_if_success (with_reducible show wpAny _ _ (call (Value.ref _) _ _) _ _ _)); first | (k_unfold; (try dsimp only)) | (with_reducible refine stripQ ?_; k_unfold; (try dsimp only)) | (k_end; wrow_close) | walk1 | (dsimp only; walk1) | (leave1; walk_say "STEP leave1"; try dsimp only))
    ((with_reducible rename ND _ => hN); replace hN := nd_keep [true, true, false, false] hN; dsimp only [keepBy] at hN); ((with_reducible rename News _ _ _ _ => nK); replace nK := news_keep [true, true, false, false] nK; dsimp only [keepBy] at nK)
    k_dflt (refine' heard_res (R := (lawTruth card)) ?ybx31 ?yfx31 ?yxx31 ?ynx31 ?ytx31 ?ykx31 ?yqx31 ?yax31 ?ydx31 ?yux31 ?yrx31)
    case ybx31 => k_asm
    case yfx31 => k_asm
    case yxx31 => k_asm
    case ynx31 => k_asm
    case ytx31 => k_asm
    case ykx31 => exact rfl
    case ydx31 => (show callerA.depth + 1 + 40 < _; decide)
    case yux31 => (show callerA.units + 3 ≤ 40; decide)
    case yqx31 => (intro h₀ h L N; exact FnAt.of N (by k_mem))
    case yax31 =>
      k_dflt (refine' ask_valL ?gx311 ?gx312 ?gx313 ?gx314 ?gx31c0 ?gx31e0 ?gx31c1 ?gx31e1 ?gx31c2 ?gx31e2 ?gx31c3 ?gx31e3 ?gx31c4 ?gx31e4 ?gx31c5 ?gx31e5 hL ?gx31i (fun i hi => truth_plain hi) ?gx315 ?gx316)
      case gx311 => k_mem
      case gx312 => k_mem
      case gx313 => exact e4
      case gx314 => exact f4
      case gx31c0 => k_mem
      case gx31e0 => with_reducible assumption
      case gx31c1 => k_mem
      case gx31e1 => with_reducible assumption
      case gx31c2 => k_mem
      case gx31e2 => with_reducible assumption
      case gx31c3 => k_mem
      case gx31e3 => with_reducible assumption
      case gx31c4 => k_mem
      case gx31e4 => with_reducible assumption
      case gx31c5 => k_mem
      case gx31e5 => with_reducible assumption
      case gx315 => (show callerA.depth + 1 + 1 + 26 < _; decide)
      case gx316 => (show callerA.units + 3 + 3 ≤ 70; decide)
      case gx31i => k_mem
    intro r10 tx31 t2x31 hx31 tkx31 Fx31 Nx31 lx31
    (try k_lt lx31)
    (try dsimp only)
    ((with_reducible rename ND _ => hN); replace hN := nd_front 2 hN; dsimp only [List.eraseIdx] at hN)
    repeat' ((fail_if_success (with_reducible show wpAny _ _ (call (Value.ref _) _ _) _ _ _)); first | (k_unfold; (try dsimp only)) | (with_reducible refine stripQ ?_; k_unfold; (try dsimp only)) | (k_end; wrow_close) | walk1 | (dsimp only; walk1) | (leave1; walk_say "STEP leave1"; try dsimp only))
    ((with_reducible rename ND _ => hN); replace hN := nd_keep [true, true, false, false] hN; dsimp only [keepBy] at hN); ((with_reducible rename News _ _ _ _ => nK); replace nK := news_keep [true, true, false, false] nK; dsimp only [keepBy] at nK)
    k_dflt (refine' heard_res (R := (lawText card rl)) ?ybx32 ?yfx32 ?yxx32 ?ynx32 ?ytx32 ?ykx32 ?yqx32 ?yax32 ?ydx32 ?yux32 ?yrx32)
    case ybx32 => k_asm
    case yfx32 => k_asm
    case yxx32 => k_asm
    case ynx32 => k_asm
    case ytx32 => k_asm
    case ykx32 => exact rfl
    case ydx32 => (show callerA.depth + 1 + 40 < _; decide)
    case yux32 => (show callerA.units + 3 ≤ 40; decide)
    case yqx32 => (intro h₀ h L N; exact FnAt.of N (by k_mem))
    case yax32 =>
      k_dflt (refine' ask_valA ?gx321 ?gx322 ?gx323 ?gx324 ?gx32c0 ?gx32e0 ?gx32c1 ?gx32e1 ?gx32c2 ?gx32e2 ?gx32c3 ?gx32e3 ?gx32c4 ?gx32e4 ?gx32c5 ?gx32e5 hL ?gx32i (by omega) (by omega) (text_plain (by omega)) ?gx325 ?gx326)
      case gx321 => k_mem
      case gx322 => k_mem
      case gx323 => exact e4
      case gx324 => exact f4
      case gx32c0 => k_mem
      case gx32e0 => with_reducible assumption
      case gx32c1 => k_mem
      case gx32e1 => with_reducible assumption
      case gx32c2 => k_mem
      case gx32e2 => with_reducible assumption
      case gx32c3 => k_mem
      case gx32e3 => with_reducible assumption
      case gx32c4 => k_mem
      case gx32e4 => with_reducible assumption
      case gx32c5 => k_mem
      case gx32e5 => with_reducible assumption
      case gx325 => (show callerA.depth + 1 + 1 + 26 < _; decide)
      case gx326 => (show callerA.units + 3 + 3 ≤ 70; decide)
      case gx32i => k_mem
    intro r11 tx32 t2x32 hx32 tkx32 Fx32 Nx32 lx32
    (try k_lt lx32)
    (try dsimp only)
    ((with_reducible rename ND _ => hN); replace hN := nd_front 2 hN; dsimp only [List.eraseIdx] at hN)
    repeat' ((fail_if_success (with_reducible show wpAny _ _ (call (Value.ref _) _ _) _ _ _)); (fail_if_success (with_reducible show UnrPost _ _ _ _ _ _ _ _ _)); first | (k_unfold; (try dsimp only)) | (with_reducible refine stripQ ?_; k_unfold; (try dsimp only)) | (k_end; wrow_close) | walk1 | (dsimp only; walk1) | (leave1; walk_say "STEP leave1"; try dsimp only))
    ((with_reducible rename ND _ => hN); replace hN := nd_keep [false] hN; dsimp only [keepBy] at hN)
    dsimp only [UnrPost]
    (with_reducible rename ND _ => hN); refine unr_end [false, false, false, false, false, false, false, false, false, false, false, false, false, false, true, true, true, true, false] (by k_asm) (by k_asm) ?eI (off_mask [false, false, false, false, false, false, false, false, false, false, false, false, false, false, true, true, true, true, false] 18 hN (by with_unfolding_all rfl) rfl rfl) ?er
    case eI => k_mem
    case er =>
      dsimp only [keepBy]
      refine' Ready.intro (cup_map ?q1) ?q2 hcupx20 ?q3 ?q4 ?u1 ?u2 ?u3 ?u4 ?u5 ?u6 ?u7 e1 f1 e2 f2 e3 f3 e4 f4 ?g1 ?g2 ?g3 ?g4
      case q2 => exact rfl
      case q1 => exact rfl
      case q3 => omega
      case q4 => omega
      case u1 => with_reducible assumption
      case u2 => with_reducible assumption
      case u3 => with_reducible assumption
      case u4 => with_reducible assumption
      case u5 => with_reducible assumption
      case u6 => with_reducible assumption
      case u7 => with_reducible assumption
      case g1 => omega
      case g2 => omega
      case g3 => omega
      case g4 => omega
  case fin =>
    intro m' o9 k9 t29 w1 w2 w3 w4 w5 w6 w7 v1 v2 v3 v4 v5 v6 v7 c1 c2 c3 c4 b1 b2 b3 b4 z1 z2 z3 z4 y1 y2 y3 y4 hcup hk0 hk1 d1 d2 d3 d4 d5 d6 d7 e1 f1 e2 f2 e3 f3 e4 f4 l1 l2 l3 l4 h9 tk9 F9 N9
    (try dsimp only)
    repeat' ((fail_if_success (with_reducible show wpAny _ _ (call (Value.ref _) _ _) _ _ _)); first | (k_unfold; (try dsimp only)) | (with_reducible refine stripQ ?_; k_unfold; (try dsimp only)) | (k_end; wrow_close) | walk1 | (dsimp only; walk1) | (leave1; walk_say "STEP leave1"; try dsimp only))
)
end
set_option maxRecDepth 100000 in
set_option maxHeartbeats 8000000 in
theorem PySem.Challenge.cw_pf0120_01_holds : PySem.Challenge.rw_pf0120_01.Holds := by
  exact Mine.lawwalk
