import PyProof.Rows.All
import Wide.All
import OpenK.AllK
import Wide.FinOn
import PySem.Challenge.RW_no0227_01
set_option Elab.async false
set_option maxRecDepth 100000
set_option maxHeartbeats 8000000
set_option linter.all false
namespace Mine
section
open PySem PySem.W PyProof.Rows
open_top hd for PySem.Challenge.rw_no0227_01
end
open PySem PySem.W PyProof.Rows PySem.Calls
theorem top_off : True := by
  w_top off
  trivial
local macro_rules | `(tactic| walk_at $s:str) => `(tactic| k_extra $(Lean.quote ("m:" ++ s.getString)))

section
open PySem PySem.W PyProof.Rows PySem.Calls PyProof.V
/-- generic_kinds(): name, the address of its list of kinds -/
noncomputable def genTab : List (Str × Addr) := [(Str.mk #[73, 78, 84], 51), (Str.mk #[82, 69, 65, 76], 51), (Str.mk #[68, 66, 76, 69], 51), (Str.mk #[67, 77, 80, 76, 88], 51), (Str.mk #[77, 79, 68], 52), (Str.mk #[83, 73, 71, 78], 52), (Str.mk #[68, 73, 77], 52), (Str.mk #[77, 65, 88], 52), (Str.mk #[77, 73, 78], 52), (Str.mk #[65, 66, 83], 51), (Str.mk #[65, 73, 78, 84], 53), (Str.mk #[65, 78, 73, 78, 84], 53), (Str.mk #[78, 73, 78, 84], 53), (Str.mk #[76, 79, 71, 49, 48], 53), (Str.mk #[84, 65, 78], 53), (Str.mk #[65, 83, 73, 78], 53), (Str.mk #[65, 67, 79, 83], 53), (Str.mk #[65, 84, 65, 78], 53), (Str.mk #[65, 84, 65, 78, 50], 53), (Str.mk #[83, 73, 78, 72], 53), (Str.mk #[67, 79, 83, 72], 53), (Str.mk #[84, 65, 78, 72], 53), (Str.mk #[83, 81, 82, 84], 54), (Str.mk #[69, 88, 80], 54), (Str.mk #[76, 79, 71], 54), (Str.mk #[83, 73, 78], 54), (Str.mk #[67, 79, 83], 54)]
/-- specific_names(): name, operation, kind -/
noncomputable def specTab : List (Str × Str × Int) := [(Str.mk #[73, 70, 73, 88], Str.mk #[73, 78, 84], 1), (Str.mk #[73, 68, 73, 78, 84], Str.mk #[73, 78, 84], 2), (Str.mk #[70, 76, 79, 65, 84], Str.mk #[82, 69, 65, 76], 0), (Str.mk #[83, 78, 71, 76], Str.mk #[82, 69, 65, 76], 2), (Str.mk #[73, 67, 72, 65, 82], Str.mk #[73, 67, 72, 65, 82], 5), (Str.mk #[67, 72, 65, 82], Str.mk #[67, 72, 65, 82], 0), (Str.mk #[68, 73, 78, 84], Str.mk #[65, 73, 78, 84], 2), (Str.mk #[68, 78, 73, 78, 84], Str.mk #[65, 78, 73, 78, 84], 2), (Str.mk #[73, 68, 78, 73, 78, 84], Str.mk #[78, 73, 78, 84], 2), (Str.mk #[73, 65, 66, 83], Str.mk #[65, 66, 83], 0), (Str.mk #[68, 65, 66, 83], Str.mk #[65, 66, 83], 2), (Str.mk #[67, 65, 66, 83], Str.mk #[65, 66, 83], 3), (Str.mk #[65, 77, 79, 68], Str.mk #[77, 79, 68], 1), (Str.mk #[68, 77, 79, 68], Str.mk #[77, 79, 68], 2), (Str.mk #[73, 83, 73, 71, 78], Str.mk #[83, 73, 71, 78], 0), (Str.mk #[68, 83, 73, 71, 78], Str.mk #[83, 73, 71, 78], 2), (Str.mk #[73, 68, 73, 77], Str.mk #[68, 73, 77], 0), (Str.mk #[68, 68, 73, 77], Str.mk #[68, 73, 77], 2), (Str.mk #[68, 80, 82, 79, 68], Str.mk #[68, 80, 82, 79, 68], 1), (Str.mk #[77, 65, 88, 48], Str.mk #[77, 65, 88], 0), (Str.mk #[65, 77, 65, 88, 49], Str.mk #[77, 65, 88], 1), (Str.mk #[68, 77, 65, 88, 49], Str.mk #[77, 65, 88], 2), (Str.mk #[65, 77, 65, 88, 48], Str.mk #[65, 77, 65, 88, 48], 0), (Str.mk #[77, 65, 88, 49], Str.mk #[77, 65, 88, 49], 1), (Str.mk #[77, 73, 78, 48], Str.mk #[77, 73, 78], 0), (Str.mk #[65, 77, 73, 78, 49], Str.mk #[77, 73, 78], 1), (Str.mk #[68, 77, 73, 78, 49], Str.mk #[77, 73, 78], 2), (Str.mk #[65, 77, 73, 78, 48], Str.mk #[65, 77, 73, 78, 48], 0), (Str.mk #[77, 73, 78, 49], Str.mk #[77, 73, 78, 49], 1), (Str.mk #[76, 69, 78], Str.mk #[76, 69, 78], 5), (Str.mk #[73, 78, 68, 69, 88], Str.mk #[73, 78, 68, 69, 88], 5), (Str.mk #[65, 73, 77, 65, 71], Str.mk #[65, 73, 77, 65, 71], 3), (Str.mk #[67, 79, 78, 74, 71], Str.mk #[67, 79, 78, 74, 71], 3), (Str.mk #[68, 83, 81, 82, 84], Str.mk #[83, 81, 82, 84], 2), (Str.mk #[67, 83, 81, 82, 84], Str.mk #[83, 81, 82, 84], 3), (Str.mk #[68, 69, 88, 80], Str.mk #[69, 88, 80], 2), (Str.mk #[67, 69, 88, 80], Str.mk #[69, 88, 80], 3), (Str.mk #[68, 76, 79, 71], Str.mk #[76, 79, 71], 2), (Str.mk #[67, 76, 79, 71], Str.mk #[76, 79, 71], 3), (Str.mk #[68, 83, 73, 78], Str.mk #[83, 73, 78], 2), (Str.mk #[67, 83, 73, 78], Str.mk #[83, 73, 78], 3), (Str.mk #[68, 67, 79, 83], Str.mk #[67, 79, 83], 2), (Str.mk #[67, 67, 79, 83], Str.mk #[67, 79, 83], 3), (Str.mk #[68, 76, 79, 71, 49, 48], Str.mk #[76, 79, 71, 49, 48], 2), (Str.mk #[68, 84, 65, 78], Str.mk #[84, 65, 78], 2), (Str.mk #[68, 65, 83, 73, 78], Str.mk #[65, 83, 73, 78], 2), (Str.mk #[68, 65, 67, 79, 83], Str.mk #[65, 67, 79, 83], 2), (Str.mk #[68, 65, 84, 65, 78], Str.mk #[65, 84, 65, 78], 2), (Str.mk #[68, 65, 84, 65, 78, 50], Str.mk #[65, 84, 65, 78, 50], 2), (Str.mk #[68, 83, 73, 78, 72], Str.mk #[83, 73, 78, 72], 2), (Str.mk #[68, 67, 79, 83, 72], Str.mk #[67, 79, 83, 72], 2), (Str.mk #[68, 84, 65, 78, 72], Str.mk #[84, 65, 78, 72], 2), (Str.mk #[65, 76, 79, 71], Str.mk #[76, 79, 71], 1), (Str.mk #[65, 76, 79, 71, 49, 48], Str.mk #[76, 79, 71, 49, 48], 1), (Str.mk #[76, 71, 69], Str.mk #[76, 71, 69], 5), (Str.mk #[76, 71, 84], Str.mk #[76, 71, 84], 5), (Str.mk #[76, 76, 69], Str.mk #[76, 76, 69], 5), (Str.mk #[76, 76, 84], Str.mk #[76, 76, 84], 5)]
/-- a dict of the call's own by its rows -/
def DictRows {δ : Type} (R : δ → Value → Prop) (od : Obj) (D : List (Str × δ)) : Prop := od.ExactDict ∧ ∃ es ep, od.data = .dict es ep ∧ KTD.Rows R es.toList D
/-- the tuple (operation, kind) -/
abbrev pairObj (op : Str) (t1 : Tok) (kd : Int) (t2 : Tok) : Obj := { cls := .type "tuple", data := .seq #[.str op t1, .int kd t2] }
theorem pairs_rows {prog : Program} {w : World} {δ : Type} {R : δ → Value → Prop} : ∀ {es : List DictEntry} {D : List (Str × δ)} {kvs : List (Str × Value)}, PySem.Pairs (PySem.strKind prog w) es kvs → kvs.length = D.length → (∀ p ∈ kvs.zip D, p.1.1 = p.2.1 ∧ R p.2.2 p.1.2) → KTD.Rows R es D
  | _, [], [], .nil, _, _ => .nil
  | _, [], _ :: _, _, h, _ => nomatch h
  | _, _ :: _, [], .nil, h, _ => nomatch h
  | e :: es, (x, d) :: D, (y, v) :: kvs, .cons hk hv hp, hl, h => by
    obtain ⟨h1, h2⟩ := h ((y, v), (x, d)) (.head _)
    have h1' : y = x := h1
    subst h1'
    have hk' : (PySem.strKind prog w).is y e.key = true := hk
    cases ek : e.key with
    | str z t =>
      rw [ek] at hk'
      have : z = y := by simpa [PySem.strKind, Value.isStrOf] using hk'
      subst this
      refine .cons ek (by rw [hv]; exact h2) (pairs_rows hp (by simpa using hl) fun p hm => h p (.tail _ hm))
    | _ => rw [ek] at hk'; simp [PySem.strKind, Value.isStrOf] at hk'
theorem dictOf_rows {prog : Program} {w : World} {δ : Type} {R : δ → Value → Prop} {od : Obj} {D : List (Str × δ)} {kvs : List (Str × Value)} (h : od.IsDictOf (PySem.strKind prog w) kvs) (hl : kvs.length = D.length) (hz : ∀ p ∈ kvs.zip D, p.1.1 = p.2.1 ∧ R p.2.2 p.1.2) : DictRows R od D :=
  let ⟨es, ep, hx, hd, _, hp, _⟩ := h
  ⟨hx, es, ep, hd, pairs_rows hp hl hz⟩
theorem stored_new {kvs : List (Str × Value)} {k : Str} {v : Value} (h : k ∉ kvs.map (·.1)) : stored kvs k v = kvs ++ [(k, v)] := by
  unfold stored
  have : (kvs.any fun kv => decide (kv.1 = k)) = false := by
    rw [List.any_eq_false]
    intro p hp e
    exact h (List.mem_map.mpr ⟨p, hp, by simpa using e⟩)
  rw [this]; rfl
section
variable {prog : Program} {w : World} {A : Around} {E : Value → Shared → Prop} {s : Shared} {h₀ : Heap} {L d : Addr} {m : Str → Option Value} {news : List (Addr × Obj)} {g : Obj → List (Addr × Obj)} {o : Obj}
/-- d[x] = v, x new -/
theorem set_new {kvs : List (Str × Value)} {x : Str} {t : Tok} {v : Value} {Q : Unit → Shared → Prop} (F : Fr h₀ L s.heap m) (N : News h₀ L s.heap news) (U : UpdF d o news g) (hd : o.IsDictOf (PySem.strKind prog w) kvs) (hl : kvs.length ≤ 100) (hx : x ∉ kvs.map (·.1))
    (h : ∀ h' o', Fr h₀ L h' m → News h₀ L h' (g o') → o'.IsDictOf (PySem.strKind prog w) (kvs ++ [(x, v)]) → Q () { s with heap := h', toks := s.toks + 1 }) :
    wpAny (model prog w) A (setItem (.ref d) (.str x t) v) Q E s := by
  obtain ⟨pre, post, rfl, hg, h1, h2⟩ := U.split
  have hm := N (d, o) (List.mem_append_right _ (.head _))
  refine wpAny_setItem_pairs (hsz := by rw [sizeLine_eq]; omega) (strKind_is prog w x t) (Heap.dictOf_iff.mpr ⟨o, hm.1, hd⟩) fun h' hmm hs => ?_
  obtain ⟨o', ho', hd'⟩ := Heap.dictOf_iff.mp hmm
  rw [stored_new hx] at hd'
  exact h h' o' (F.change hs hm.2.1 hm.2.2) (hg o' ▸ N.setIn h1 h2 hs ho') hd'
end
section
variable {prog : Program} {w : World} {A : Around} {E : Value → Shared → Prop} {s : Shared} {h₀ : Heap} {env : Env} {target : Expr} {body : List Stmt} {Q : Flow → Shared → Prop}
/-- a loop over texts that fills something -/
theorem grow_rest {σ : Type} {J : Option Value → Str → Option Value} {I : Addr} {keep : List (Addr × Obj)} {f : σ → List (Addr × Obj)} (hsub : ∀ x, SubL keep (f x)) {P : List Str → σ → Prop} {all : List Str}
    (turn : ∀ done r rest tk x or h t, done ++ r :: rest = all → P done x → Fr h₀ env.locals h (J or) → ∀ o : Obj, o.cls = .type "list_iterator" → News h₀ env.locals h ((I, o) :: f x) →
      wpAny (model prog w) A (assign target env (.str r tk)) (fun _ s₂ => wpAny (model prog w) A (execs body env) (UnrPostW h₀ env.locals { s with heap := h, toks := t } [(I, o)] (fun m' n' => (∃ x', n' = f x' ∧ P (done ++ [r]) x') ∧ ∃ a, m' = J a) Q) E s₂) E { s with heap := h, toks := t })
    (fin : ∀ x or h t, P all x → Fr h₀ env.locals h (J or) → News h₀ env.locals h (f x) → Q .next { s with heap := h, toks := t }) :
    ∀ (l : List (Str × Tok)) (done : List Str), done ++ l.map (·.1) = all → ∀ x or, P done x → ItemsRest prog w A E h₀ env target body Q s [(I, "list_iterator")] keep ((strValues l).map .val) (J or) (f x)
  | [], done, hd, x, or, hP => ItemsRest.zero fun h t F N => fin x or h t (by simpa [← hd] using hP) F N
  | (r, tk) :: l, done, hd, x, or, hP => ItemsRest.val fun h t F => AllObj.cons fun o ho => AllObj.nil fun N => by
    refine wpAny_mono (turn done r (l.map Prod.fst) tk x or h t hd hP F o ho N) (fun _ s₂ h₂ => wpAny_mono h₂ (fun fl s₃ h₃ => ?_) fun _ _ e => e) fun _ _ e => e
    have step : ∀ m' n', ((∃ x', n' = f x' ∧ P (done ++ [r]) x') ∧ ∃ a, m' = J a) → SubL keep n' ∧ ItemsRest prog w A E h₀ env target body Q s [(I, "list_iterator")] keep ((strValues l).map .val) m' n' := fun m' n' k => by
      obtain ⟨⟨x', rfl, hP'⟩, a, rfl⟩ := k
      exact ⟨hsub x', grow_rest hsub turn fin l (done ++ [r]) (by simpa using hd) x' a hP'⟩
    cases fl with
    | ret v => exact h₃
    | brk => exact h₃
    | _ =>
      obtain ⟨h', tk, m', n', a, b, c, d, e⟩ := h₃
      exact ⟨h', tk, m', n', a, b, c, d, step _ _ e⟩
end
theorem nodup_new {K done rest : List Str} {r : Str} (h : (K ++ (done ++ r :: rest)).Nodup) : r ∉ K ++ done := by
  rw [← List.append_assoc] at h
  exact fun hm => (List.nodup_append.mp h).2.2 r hm r (.head _) rfl
end

section
open PySem PySem.W PyProof.Rows PySem.Calls PyProof.V
/-- a fault as it is made: its arguments' tuple, no dict yet -/
abbrev fObj (dx : Option Addr) (t : Addr) : Obj := { cls := .ref 44, dict := dx, data := .fields #[.ref t, .none, .none, .none, .bool false, .none] }
abbrev fTup (v : Value) : Obj := { cls := .type "tuple", data := .seq #[v] }
noncomputable def fMro : List Value := [.ref 31, .type "Exception", .type "BaseException", .type "object"]
/-- class 44 as it lies in the heap -/
theorem fCls (w : World) : ∃ nm q bs hdct sn sub ab col dd k0 k1 k2 k3 k5, (hd.heap_39 w.params).lookup 44 = some (excClassObj nm q 44 43 bs fMro hdct sn sub ab col dd k0 k1 k2 k3 k5 "Exception.__new__") :=
  ⟨_, _, _, _, _, _, _, _, _, _, _, _, _, _, rfl⟩
section
variable {prog : Program} {w : World} {A : Around} {R : Result → Shared → Prop} {h : Heap} {g : Array GenState} {d : Drawn} {t : Nat} {os : OsState}
variable {nm q : Str} {bs : List Value} {hdct : Bool} {sn : List Str} {sub : List Value} {ab : Bool} {col : Option Bool} {dd : Option Addr} {k0 k1 k2 k3 k5 : Option Value}
theorem f_check {M : Model} {E : Value → Shared → Prop} {rest : List Value} {Q : Unit → Shared → Prop} (hC : h.get? 44 = some (excClassObj nm q 44 43 bs fMro hdct sn sub ab col dd k0 k1 k2 k3 k5 "Exception.__new__"))
    (hq : Q () ⟨h, g, d, t, os⟩) : wpAny M A (checkBuiltinCall "Exception.__new__" ⟨.ref 44 :: rest, []⟩) Q E ⟨h, g, d, t, os⟩ := by
  have F := PySem.F.excBase_Exception
  have c1 : (Value.ref 44 :: fMro).contains (.type "Exception") = true := by decide +kernel
  have c2 := F.noStar
  simp only [checkBuiltinCall, F.newKind, F.newSplit, F.newRow]
  repeat (first | refine wpAny_madeBy_exc hC ?_ | refine wpAny_staticBase_exc hC ?_ | (refine wpAny_isSubtype_exc hC ?_; rw [c1]) | refine wpAny_loadPart_at hC ?_ | simp only [bne_self_eq_false, Bool.false_eq_true, if_false] | wp_step)
  exact hq
theorem f_new {v : Value} (hC : h.get? 44 = some (excClassObj nm q 44 43 bs fMro hdct sn sub ab col dd k0 k1 k2 k3 k5 "Exception.__new__"))
    (hq : R (.ok (.ret (.ref (h.objs.size + 1)))) ⟨(h.push (fTup v)).push (fObj none h.objs.size), g, d, t, os⟩) :
    codeAny (model prog w) A (.builtin "Exception.__new__" ⟨[.ref 44, v], []⟩) R ⟨h, g, d, t, os⟩ := by
  have F := PySem.F.excBase_Exception
  have hends := F.ends
  have c1 : (Value.ref 44 :: fMro).contains (.type "Exception") = true := by decide +kernel
  have c2 : (Value.ref 44 :: fMro).contains (.type "AttributeError") = false := by decide +kernel
  have c3 : (Value.ref 44 :: fMro).contains (.type "NameError") = false := by decide +kernel
  refine codeAny_builtinAt F.entry ?_
  unfold Builtin.«BaseException.__new__»
  refine PySem.wpAt_bind ?_
  show PySem.wpAt _ _ _ (stack >>= _) _ _ _
  refine PySem.wpAt_bind (PySem.wpAt_stack fun p below => PySem.wpAt_of_wpAny ?_)
  wp_walk
  refine PySem.wpAt_of_wpAny ?_
  rw [F.owner]
  repeat (first | with_reducible refine wpAny_madeHere_exc F.canon hC ?_ | with_reducible refine wpAny_loadPart_at hC ?_ | (with_reducible refine wpAny_isSubtype_exc hC ?_; first | rw [c1] | rw [c2] | rw [c3]) | wp_step)
  show R _ _
  rw [Heap.size_push]
  exact hq
theorem f_make {v : Value} (X : (hd.heap_39 w.params).In h)
    (hq : codeAny (model prog w) (A.under (.builtin "type.__call__" ⟨[.ref 44, v], []⟩)) (.call (.ref 28) ⟨[.ref (h.objs.size + 1), v], []⟩) (InitBack (h.objs.size + 1) R) ⟨(h.push (fTup v)).push (fObj none h.objs.size), g, d, t, os⟩) :
    codeAny (model prog w) A (.call (.ref 44) ⟨[v], []⟩) R ⟨h, g, d, t, os⟩ := by
  have F := PySem.F.excBase_Exception
  obtain ⟨nm, q, bs, hdct, sn, sub, ab, col, dd, k0, k1, k2, k3, k5, e⟩ := fCls w
  have hC := X _ _ e
  have f1 := tc_lookup
  have f2 := tc_bind (.ref 44)
  have hT : (⟨h, g, d, t, os⟩ : Shared).TypeIs (.ref 44) "type" := ⟨_, hC, rfl⟩
  have keep : ∀ b o, h.get? b = some o → ((h.push (fTup v)).push (fObj none h.objs.size)).get? b = some o := fun b o e => Heap.get?_push_of_some _ (Heap.get?_push_of_some _ e)
  have hget : ((h.push (fTup v)).push (fObj none h.objs.size)).get? (h.objs.size + 1) = some (fObj none h.objs.size) := by heap_get
  have hC₁ := keep _ _ hC
  have X₁ := X.keeps keep
  have cC : (Value.ref 44 :: fMro).contains (.ref 44) = true := by decide +kernel
  have hi : Looks (model prog w) ((h.push (fTup v)).push (fObj none h.objs.size)) (typeLookup (.ref 44) "__init__") (some (.ref 28)) := looks_findIn X₁ rfl
  have hb : Looks (model prog w) ((h.push (fTup v)).push (fObj none h.objs.size)) (bindSpecial (.ref 28) (.ref (h.objs.size + 1))) (.ref 28, [.ref (h.objs.size + 1)]) := bind_fn X₁ _ rfl
  refine codeAny_of_tree ?_
  show wpAny _ _ (callAny (.ref 44) _) _ _ _
  repeat (any_goals (first | assumption | with_reducible refine wpAny_loadPart_at hC ?_ | wp_step))
  refine ⟨rfl, ?_⟩
  refine codeAny_call_builtin_at (Code.quiet_builtin _ (by decide +kernel)) entry_typeCall (wpAny_check_type_call_sub hC ?_)
  repeat (first | with_reducible refine wpAny_loadPart_at hC ?_ | with_reducible refine wpAny_madeBy_exc hC ?_ | wp_step)
  refine codeAny_call_builtin_code (Code.quiet_builtin _ F.quiet) (f_check hC ?_)
  refine f_new hC ?_
  show wpAny _ _ _ _ _ _
  unfold isInstance
  repeat (first | with_reducible refine wpAny_loadPart_at hget ?_ | (with_reducible refine wpAny_isSubtype_exc hC₁ ?_; rw [cC]) | wp_step)
  show wpAny _ _ (typeLookup (.ref 44) _) _ _ _
  refine hi.here ?_
  refine wpAny_holding (wpAny_bind (hb.here ?_))
  refine wpAny_bind (wpAny_call (codeAny_mono hq fun r s' z => ?_))
  rcases r with e | (v | _ | _ | _) <;> first | exact z | exact z.elim | skip
  obtain ⟨rfl, z⟩ := z
  wp_walk
  exact z
end
end

section
open PySem PySem.W PyProof.Rows PySem.Calls PyProof.V
section
variable {prog : Program} {w : World} {A : Around} {h₀ : Heap} {L e t0 : Addr} {m : Str → Option Value} {news : List (Addr × Obj)} {s : Shared}
/-- Exception.__init__(e, v) -/
theorem f_init {E : Value → Shared → Prop} {v : Value} {dx : Option Addr} {Q : Value → Shared → Prop} (X : (hd.heap_39 w.params).In s.heap) (F : Fr h₀ L s.heap m) (N : News h₀ L s.heap ((e, fObj dx t0) :: news)) (hne : ∀ p ∈ news, p.1 ≠ e)
    (k : ∀ t h', (∀ p ∈ (e, fObj dx t0) :: news, p.1 < t) → Fr h₀ L h' m → News h₀ L h' ((t, fTup v) :: (e, fObj dx t) :: news) → Q .none { s with heap := h' }) :
    wpAny (model prog w) A (call (.builtin "Exception.__init__") [.ref e, v]) Q E s := by
  have G := PySem.F.excBase_Exception
  obtain ⟨nm, q, bs, hdct, sn, sub, ab, col, dd, k0, k1, k2, k3, k5, ec⟩ := fCls w
  have hC := X _ _ ec
  have he := (N _ (.head _)).1
  dsimp only at he
  obtain ⟨h, g, d, tk, os⟩ := s
  dsimp only at he hC N F
  have c1 : (Value.ref 44 :: fMro).contains (.type "Exception") = true := by decide +kernel
  have c2 := G.noStar
  refine wpAny_call (codeAny_call_builtin G.init.plain G.initEntry ?_)
  · simp only [checkBuiltinCall, G.initKind, G.initSplit, G.initRow]
    repeat (first | with_reducible refine wpAny_loadPart_at he ?_ | with_reducible refine wpAny_loadPart_at hC ?_ | (with_reducible refine wpAny_isSubtype_exc hC ?_; rw [c1]) | wp_step)
    obtain ⟨U1, U2⟩ := news_upd (f := Obj.mapFields (·.setIfInBounds 0 (.ref h.objs.size))) (pre := [(h.objs.size, fTup v)]) (d := e) (o := fObj dx t0) (o' := fObj dx h.objs.size) (post := news) (F.push (fTup v)) (N.push F (fTup v)) (List.forall_mem_cons.mpr ⟨Nat.ne_of_gt (Heap.lt_size he), List.forall_mem_nil _⟩) hne rfl rfl
    exact k _ _ (fun p hp => Heap.lt_size (N p hp).1) U1 U2
/-- e.text = v, the first that e gets -/
theorem f_set {E : Value → Shared → Prop} {x : Str} {tx : Tok} {Q : Unit → Shared → Prop} (X : (hd.heap_39 w.params).In s.heap) (F : Fr h₀ L s.heap m) (N : News h₀ L s.heap ((t0, fTup (.str x tx)) :: (e, fObj none t0) :: news)) (hne : ∀ p ∈ news, p.1 ≠ e)
    (k : ∀ dx h' tk', Fr h₀ L h' m → News h₀ L h' ((t0, fTup (.str x tx)) :: (e, fObj (some dx) t0) :: news) → Q () { s with heap := h', toks := tk' }) :
    wpAny (model prog w) A (setAttr (.ref e) "text" (.str x tx)) Q E s := by
  have he := (N _ (.tail _ (.head _))).1
  obtain ⟨h, g, d, tk, os⟩ := s
  dsimp only at he X F N
  have I : InstAt h e (fObj none t0) 44 none := ⟨he, rfl, rfl, trivial⟩
  refine set_plain X I rfl ?_
  have SF := PySem.F.store_object
  have hm : Looks (model prog w) h (mroOf (.ref 44)) (.ref 44 :: fMro) := (looks_clsIn X (cd := _) rfl).andThen .now
  have sub : Looks (model prog w) h (isInstance (.ref e) (.type "object")) true := I.type.andThen (looks_mroIn X rfl)
  refine codeAny_call_builtin SF.slot.plain SF.entry (@check_slot (model prog w) _ _ ⟨h, g, d, tk + 1, os⟩ "object.__setattr__" "object" "__setattr__" (.ref e) _ [] _ SF.kind SF.split sub (SF.args (.ref e) (.str _ _) (.str x tx)) ?_)
  rw [osa_eq, refuse_eq]
  refine wpAny_bind (wpAny_bind (I.type.here (wpAny_bind (hm.here ?_))))
  have hr : refuseLoop (.ref e) "__setattr__" (.ref 44 :: fMro) = pure () := by
    unfold fMro
    rw [refuseLoop_ref, refuseLoop_ref]
    kernel_rfl
  rw [hr]
  refine wpAny_pure (wpAny_bind (I.type.here (wpAny_bind ((looks_findIn X (r := none) rfl).here (wpAny_bind (wpAny_pure ?_))))))
  dsimp only [Option.isSome]
  unfold Builtin.ObjectAttr.storeInOwnDict
  refine wpAny_bind (wpAny_pure (wpAny_bind ?_))
  obtain ⟨nm, q, bs, hdct, sn, sub', ab, col, dd, k0, k1, k2, k3, k5, ec⟩ := fCls w
  have hC := X _ _ ec
  have hh : hdct = true := by
    have c : hasDictIn (hd.heap_39 w.params) 44 = true := rfl
    unfold hasDictIn clsIn at c
    rw [ec] at c
    exact c
  subst hh
  show wpAny _ _ (instanceDict e true) _ _ _
  unfold instanceDict
  repeat (first | with_reducible refine wpAny_loadPart_at he ?_ | with_reducible refine wpAny_loadPart_at hC ?_ | wp_step)
  have lt := Heap.lt_size he
  have ht := (N _ (.head _)).1
  have lt' := Heap.lt_size ht
  have hte : t0 ≠ e := fun z => by
    rw [z, he] at ht
    cases ht
  obtain ⟨U1, U2⟩ := news_upd (f := fun o => { cls := o.cls, dict := some h.objs.size, data := o.data, slots := o.slots }) (pre := [(h.objs.size, { cls := .type "dict", data := .dict #[] }), (t0, fTup (.str x tx))]) (d := e) (o := fObj none t0) (o' := fObj (some h.objs.size) t0) (post := news) (F.push _) (N.push F _)
    (List.forall_mem_cons.mpr ⟨Nat.ne_of_gt lt, List.forall_mem_cons.mpr ⟨hte, List.forall_mem_nil _⟩⟩) hne rfl rfl
  obtain ⟨V1, V2⟩ := news_upd (f := Obj.putName "text" (PyData.keyHash w.params "text") (.str "text" (tk + 1)) (.str x tx)) (pre := []) (d := h.objs.size) (o := { cls := .type "dict", data := .dict #[] }) (post := (t0, fTup (.str x tx)) :: (e, fObj (some h.objs.size) t0) :: news) U1 U2 (List.forall_mem_nil _)
    (List.forall_mem_cons.mpr ⟨Nat.ne_of_lt lt', List.forall_mem_cons.mpr ⟨Nat.ne_of_lt lt, fun p hp => Nat.ne_of_lt (Heap.lt_size (N p (.tail _ (.tail _ hp))).1)⟩⟩) rfl rfl
  have D := (U2 _ (.head _)).1
  have D' := (V2 _ (.head _)).1
  refine wpAny_askSetting (wpAny_pure (wpAny_bind (wpAny_mkText (wpAny_bind (wpAny_loadPart_at D ?_)))))
  dsimp only
  rw [show aRefKeyMayBeTheName (Str.ofString "text") #[] = false from rfl]
  refine wpAny_updatePart D ?_
  refine wpAny_bind (wpAny_lookBehind D' (pastItsLine_dict (es := #[_]) (by rw [sizeLine_eq]; exact Nat.le_of_ble_eq_true rfl)) ?_)
  exact wpAny_pure (k _ _ _ V1 fun p hp => V2 p (.tail _ hp))
end
end

section
open PySem PySem.W PyProof.Rows PySem.Calls PyProof.V
theorem f_meta : typeOf (.type "Exception") = pure (.type "type") := by kernel_rfl
/-- what the making of a CheckFault leaves, in a walk -/
structure FaultK (h₀ : Heap) (L : Addr) (h : Heap) (news : List (Addr × Obj)) (e ta : Addr) (x : Str) (tk : Tok) : Prop where
  there : ∃ dd sl, h.get? e = some { cls := .ref 44, dict := some dd, data := .fields #[.ref ta, .none, .none, .none, .bool false, .none], slots := sl }
  args : h.get? ta = some { cls := .type "tuple", data := .seq #[.str x tk] }
  newE : h₀.get? e = none
  newT : h₀.get? ta = none
  ne : ∀ p ∈ news, p.1 ≠ e ∧ p.1 ≠ ta
section
variable {prog : Program} {w : World} {A : Around} {R : Result → Shared → Prop} {h₀ : Heap} {L : Addr} {m : Str → Option Value} {news : List (Addr × Obj)} {s : Shared}
theorem f_call {v : Value} (F : Fr h₀ L s.heap m) (N : News h₀ L s.heap news) (X₀ : (hd.heap_39 w.params).In h₀)
    (k : ∀ e t h', Fr h₀ L h' m → News h₀ L h' ((e, fObj none t) :: (t, fTup v) :: news) → (∀ p ∈ news, p.1 < t) → t < e →
      codeAny (model prog w) (A.under (.builtin "type.__call__" ⟨[.ref 44, v], []⟩)) (.call (.ref 28) ⟨[.ref e, v], []⟩) (InitBack e R) { s with heap := h' }) :
    codeAny (model prog w) A (.call (.ref 44) ⟨[v], []⟩) R s := by
  obtain ⟨h, g, d, tk, os⟩ := s
  refine f_make (X₀.keeps F.keep) (k _ h.objs.size _ ((F.push _).push _) ?_ (fun p hp => Heap.lt_size (N p hp).1) (Nat.lt_succ_self _))
  have := (N.push F (fTup v)).push (F.push _) (fObj none h.objs.size)
  rwa [Heap.size_push] at this
end
theorem f_end {h₀ h' : Heap} {L e t t' dx : Addr} {o o' : Obj} {x : Str} {tk : Tok} {news : List (Addr × Obj)} (N : News h₀ L h' ((t', fTup (.str x tk)) :: (e, fObj (some dx) t') :: (t, o) :: news)) (hne : ∀ p ∈ (t, o) :: news, p.1 ≠ e) (l3 : ∀ p ∈ (e, o') :: (t, o) :: news, p.1 < t') : FaultK h₀ L h' news e t' x tk :=
  ⟨⟨_, _, (N _ (.tail _ (.head _))).1⟩, (N _ (.head _)).1, (N _ (.tail _ (.head _))).2.2, (N _ (.head _)).2.2, fun p hp => ⟨hne p (.tail _ hp), Nat.ne_of_lt (l3 p (.tail _ (.tail _ hp)))⟩⟩
theorem news_of {h₀ h : Heap} {L : Addr} {l l' : List (Addr × Obj)} (N : News h₀ L h l) (hs : ∀ p ∈ l', p ∈ l) : News h₀ L h l' := fun p hp => N p (hs p hp)
section
theorem kw_F3_1 : True := by
  k_with_none
  k_with "m:getMethod type:Exception" =>
    (k_here; refine' method_type ?kwF ?kwX ?kwm (by decide +kernel) ?kwe ?kwh ?_; (case kwF => k_asm); (case kwX => k_asm); (case kwm => exact f_meta); (case kwe => k_dflt k_is); (case kwh => k_handed))
  k_with "m:call builtin:Exception.__init__" =>
    (k_here; refine' f_init ?kwX ?kwF ?kwN ?kwne ?_; (case kwF => k_asm); (case kwN => k_asm); (case kwX => k_in); (case kwne => exact hne); k_whole; intro t' h' l3 F' N')
  k_with "m:setAttr ref" =>
    (k_here; refine' f_set ?kwX ?kwF ?kwN ?kwne ?_; (case kwF => k_asm); (case kwN => k_asm); (case kwX => k_in); (case kwne => exact hne); k_whole; intro d' h' tk' F' N'; (try k_sweep))
  trivial
theorem ct_fault {w : World} {p : Program} {loose : List Str} {mean : ExcName → Option Value} {mg mb : Str → Option Value} {news : List (Addr × Obj)} {x : Str} {tk : Tok}
  {dp un : Nat} {gd : Option (List Code)} {cn : Str} {cs : Scope} {a : Addr} {ccd : Value} {cl : List (Str × Addr)} {outer : List Env} {A₀ : Around} {base h₀ : Heap} {L : Addr} {m : Str → Option Value} {s : Shared} {Q E : Value → Shared → Prop} :
  Below A₀ base outer h₀ → Fr h₀ L s.heap m → (hd.heap_39 w.params).In h₀ → Top p loose mean mg mb h₀ → cs.kind = .function → dp < 390 → un < 150 → News h₀ L s.heap news →
  (∀ e ta h' tk', FaultK h₀ L h' news e ta x tk → Fr h₀ L h' m → News h₀ L h' news → Q (.ref e) { s with heap := h', toks := tk' }) →
  wpAny (model Challenge.rw_no0227_01.row.prog w) (ktrTop dp un gd cn cs L a ccd cl outer) (call (.ref 44) [.str x tk]) Q E s := by
  k_fill
  intro B F X T hk hdp hun N hret
  refine wpAny_call (f_call F N X ?_)
  intro e t h' F1 N1 l1 l2
  have hne : ∀ p ∈ (t, fTup (.str x tk)) :: news, p.1 ≠ e := List.forall_mem_cons.mpr ⟨Nat.ne_of_lt l2, fun p hp => Nat.ne_of_lt (Nat.lt_trans (l1 p hp) l2)⟩
  refine' code_def ?k1 ?k2 ?k3 ?k4 ?k5 ?kA ?kF ?kK ?k6 ?k7 ?k8 ?k9 ?kB ?_ ?c2 ?c3 ?c4 ?c5
  case kA => exact rfl
  case kF => exact rfl
  case kK => assumption
  case k1 => k_asm
  case k2 => k_asm
  case k3 => k_asm
  case k4 => k_asm
  case k5 => k_asm
  case k6 => k_is
  case k7 => k_is
  case k8 =>
    show _ < 1000
    simp only [depth_under_make]
    omega
  case k9 => exact BindsTo.of_eq rfl
  case c5 => decide
  case kB => exact locs rfl
  case c2 => exact rfl
  case c3 => exact rfl
  case c4 => exact rfl
  intro g' L' h' FG' F' N' B' X' T'
  dsimp only
  k_steps
  exact hret _ _ _ _ (f_end (by assumption) hne l3) (by assumption) (news_of (by assumption) fun p hp => .tail _ (.tail _ (.tail _ hp)))
end
theorem kw_F3_2 : True := by
  k_with_none
  trivial
end

section
open PySem PySem.W PyProof.Rows PySem.Calls PyProof.V
section
variable {prog : Program} {w : World} {A : Around} {E : Value → Shared → Prop} {s : Shared} {env : Env} {h₀ : Heap} {L : Addr} {m : Str → Option Value} {news : List (Addr × Obj)}
/-- what is left behind the pairs of a short dict display -/
def PairsEnd (prog : Program) (w : World) (h₀ : Heap) (L : Addr) (m : Str → Option Value) (news : List (Addr × Obj)) (hp : Heap) (Q : Value → Shared → Prop) (kvs : List (Str × Value)) (vs : List (Value × Value)) (s₁ : Shared) : Prop :=
  s₁.heap = hp ∧ allStrKeys vs = true ∧ strPairs vs = kvs ∧
    ∀ d h' o tk, (d == sysModules) = false → (∀ p ∈ news, p.1 < d) → Fr h₀ L h' m → News h₀ L h' ((d, o) :: news) → o.IsDictOf (PySem.strKind prog w) kvs → Q (.ref d) { s₁ with heap := h', toks := tk }
theorem dict_names (kvs : List (Str × Value)) {keys : List (Option Expr)} {values : List Expr} {pos : Pos} {Q : Value → Shared → Prop} (F : Fr h₀ L s.heap m) (N : News h₀ L s.heap news) (hbig : h₀.NoLimit) (hk : strLits keys = true)
    (hall : keys.all (·.isSome) = true) (hl : keys.length = values.length) (h0 : keys ≠ []) (hlen : keys.length ≤ 15) (hn : (kvs.map (·.1)).Nodup)
    (h : ∀ hp, Fr h₀ L hp m → wpAny (model prog w) A (evalPairs (pairTrees keys values env pos)) (PairsEnd prog w h₀ L m news hp Q kvs) E { s with heap := hp }) :
    wpAny (model prog w) A (eval (.Dict keys values pos) env) Q E s :=
  Dict_made_str hk F hall hl h0 hlen fun F1 => wpAny_mono (h _ F1) (fun vs s₁ hv => by
    obtain ⟨e, hk, rfl, k⟩ := hv
    rw [e]
    exact made_str F N hk hn fun h' o F' N' hd => k _ h' o _ (F.notModules (modules_low hbig)) (fun p hp => Heap.lt_size (N p hp).1) F' N' hd) fun _ _ x => x
end
noncomputable def nameMap (cur : Str → Option Value) (or : Option Value) (y : Str) : Option Value := if y = Str.ofString "name" then or else cur y
theorem nameMap_self {cur : Str → Option Value} : nameMap cur (cur (Str.ofString "name")) = cur := by
  funext y; unfold nameMap; split
  · rename_i e; rw [e]
  · rfl
theorem nameMap_step {cur : Str → Option Value} {or : Option Value} {v : Value} : (fun y => if y = Str.ofString "name" then some v else nameMap cur or y) = nameMap cur (some v) := by
  funext y; unfold nameMap; split <;> rfl
section
variable {prog : Program} {w : World} {A : Around} {E : Value → Shared → Prop} {s : Shared} {h₀ : Heap} {env : Env} {target : Expr} {body : List Stmt} {Q : Flow → Shared → Prop}
/-- the dict's rows, in a loop that adds one row a turn -/
def Filled (prog : Program) (w : World) (kv : List (Str × Value)) (v : Value) (done : List Str) (o : Obj) : Prop := o.IsDictOf (PySem.strKind prog w) (kv ++ done.map fun x => (x, v))
theorem fill_rest {I : Addr} {od : Obj} {keep : List (Addr × Obj)} {vs : List Value} {cur m1 : Str → Option Value} {kv : List (Str × Value)} {v : Value} (all : List Str) {f : Obj → List (Addr × Obj)} (hsub : ∀ x, SubL keep (f x)) (hd : od.IsDictOf (PySem.strKind prog w) kv) (hm : m1 = cur) (hv : StrsAre vs all)
    (turn : ∀ done r rest tk x or h t, done ++ r :: rest = all → Filled prog w kv v done x → Fr h₀ env.locals h (nameMap cur or) → ∀ o : Obj, o.cls = .type "list_iterator" → News h₀ env.locals h ((I, o) :: f x) →
      wpAny (model prog w) A (assign target env (.str r tk)) (fun _ s₂ => wpAny (model prog w) A (execs body env) (UnrPostW h₀ env.locals { s with heap := h, toks := t } [(I, o)] (fun m' n' => (∃ x', n' = f x' ∧ Filled prog w kv v (done ++ [r]) x') ∧ ∃ a, m' = nameMap cur a) Q) E s₂) E { s with heap := h, toks := t })
    (fin : ∀ x or h t, Filled prog w kv v all x → Fr h₀ env.locals h (nameMap cur or) → News h₀ env.locals h (f x) → Q .next { s with heap := h, toks := t }) :
    ItemsRest prog w A E h₀ env target body Q s [(I, "list_iterator")] keep (vs.map .val) m1 (f od) := by
  obtain ⟨l, rfl, hl⟩ : ∃ l : List (Str × Tok), strValues l = vs ∧ l.map (·.1) = all := by
    clear turn fin
    induction hv with
    | nil => exact ⟨[], rfl, rfl⟩
    | cons y t _ ih => obtain ⟨l, h1, h2⟩ := ih; exact ⟨(y, t) :: l, by rw [← h1]; rfl, by rw [← h2]; rfl⟩
  have := grow_rest (prog := prog) (w := w) (A := A) (E := E) (s := s) (h₀ := h₀) (env := env) (target := target) (body := body) (Q := Q) (J := nameMap cur) (I := I) (keep := keep) hsub turn fin l [] hl od (cur (Str.ofString "name")) (by unfold Filled; simpa using hd)
  rw [nameMap_self] at this
  rw [hm]; exact this
theorem fill_restA {I D : Addr} {od : Obj} {keep rest : List (Addr × Obj)} {p : Addr × Obj} {vs : List Value} {cur m1 : Str → Option Value} {kv : List (Str × Value)} (v : Value) (all : List Str) (hsub : ∀ x, SubL keep (p :: (D, x) :: rest)) (hd : od.IsDictOf (PySem.strKind prog w) kv) (hm : m1 = cur) (hv : StrsAre vs all)
    (turn : ∀ (s : Shared) (Q : Flow → Shared → Prop) (E : Value → Shared → Prop), ∀ done r more tk x or h t, done ++ r :: more = all → Filled prog w kv v done x → Fr h₀ env.locals h (nameMap cur or) → ∀ o : Obj, o.cls = .type "list_iterator" → News h₀ env.locals h ((I, o) :: p :: (D, x) :: rest) →
      wpAny (model prog w) A (assign target env (.str r tk)) (fun _ s₂ => wpAny (model prog w) A (execs body env) (UnrPostW h₀ env.locals { s with heap := h, toks := t } [(I, o)] (fun m' n' => (∃ x, n' = p :: (D, x) :: rest ∧ Filled prog w kv v (done ++ [r]) x) ∧ ∃ a, m' = nameMap cur a) Q) E s₂) E { s with heap := h, toks := t })
    (fin : ∀ x or h t, Filled prog w kv v all x → Fr h₀ env.locals h (nameMap cur or) → News h₀ env.locals h (p :: (D, x) :: rest) → Q .next { s with heap := h, toks := t }) :
    ItemsRest prog w A E h₀ env target body Q s [(I, "list_iterator")] keep (vs.map .val) m1 (p :: (D, od) :: rest) := fill_rest (f := fun x => p :: (D, x) :: rest) all hsub hd hm hv (turn s Q E) fin
theorem fill_restB {I D : Addr} {od : Obj} {keep rest : List (Addr × Obj)} {p q : Addr × Obj} {vs : List Value} {cur m1 : Str → Option Value} {kv : List (Str × Value)} (v : Value) (all : List Str) (hsub : ∀ x, SubL keep (p :: q :: (D, x) :: rest)) (hd : od.IsDictOf (PySem.strKind prog w) kv) (hm : m1 = cur) (hv : StrsAre vs all)
    (turn : ∀ (s : Shared) (Q : Flow → Shared → Prop) (E : Value → Shared → Prop), ∀ done r more tk x or h t, done ++ r :: more = all → Filled prog w kv v done x → Fr h₀ env.locals h (nameMap cur or) → ∀ o : Obj, o.cls = .type "list_iterator" → News h₀ env.locals h ((I, o) :: p :: q :: (D, x) :: rest) →
      wpAny (model prog w) A (assign target env (.str r tk)) (fun _ s₂ => wpAny (model prog w) A (execs body env) (UnrPostW h₀ env.locals { s with heap := h, toks := t } [(I, o)] (fun m' n' => (∃ x, n' = p :: q :: (D, x) :: rest ∧ Filled prog w kv v (done ++ [r]) x) ∧ ∃ a, m' = nameMap cur a) Q) E s₂) E { s with heap := h, toks := t })
    (fin : ∀ x or h t, Filled prog w kv v all x → Fr h₀ env.locals h (nameMap cur or) → News h₀ env.locals h (p :: q :: (D, x) :: rest) → Q .next { s with heap := h, toks := t }) :
    ItemsRest prog w A E h₀ env target body Q s [(I, "list_iterator")] keep (vs.map .val) m1 (p :: q :: (D, od) :: rest) := fill_rest (f := fun x => p :: q :: (D, x) :: rest) all hsub hd hm hv (turn s Q E) fin
theorem fill_back {L I : Addr} {o x : Obj} {s₁ : Shared} {cur : Str → Option Value} {or : Option Value} {v1 v : Value} {h' : Heap} {tk : Nat} {kv : List (Str × Value)} {done : List Str} {r : Str} {f : Obj → List (Addr × Obj)} (hI : ∀ p ∈ f x, p.1 ≠ I)
    (F : Fr h₀ L h' (fun y => if y = Str.ofString "name" then some v1 else nameMap cur or y)) (N : News h₀ L h' ((I, o) :: f x)) (hd : x.IsDictOf (PySem.strKind prog w) (kv ++ (done.map fun x => (x, v)) ++ [(r, v)])) :
    UnrEndW h₀ L s₁ [(I, o)] (fun m' n' => (∃ x', n' = f x' ∧ Filled prog w kv v (done ++ [r]) x') ∧ ∃ a, m' = nameMap cur a) { s₁ with heap := h', toks := tk } :=
  ⟨h', tk, _, f x, rfl, F, N, fun p hp q hq e => by
    rw [List.mem_singleton.mp hq] at e
    exact hI p hp e, ⟨x, rfl, by unfold Filled; simpa [List.append_assoc] using hd⟩, _, nameMap_step⟩
theorem fill_keepA {I D : Addr} {od x : Obj} {p : Addr × Obj} {rest : List (Addr × Obj)} (h : ∀ q ∈ p :: (D, od) :: rest, q.1 < I) : ∀ q ∈ p :: (D, x) :: rest, q.1 ≠ I := fun q hq => Nat.ne_of_lt (by
  rcases List.mem_cons.mp hq with rfl | hq
  · exact h _ (.head _)
  · rcases List.mem_cons.mp hq with rfl | hq
    · exact h (D, od) (.tail _ (.head _))
    · exact h q (.tail _ (.tail _ hq)))
theorem fill_keepB {I D : Addr} {od x : Obj} {p p' : Addr × Obj} {rest : List (Addr × Obj)} (h : ∀ q ∈ p :: p' :: (D, od) :: rest, q.1 < I) : ∀ q ∈ p :: p' :: (D, x) :: rest, q.1 ≠ I := fun q hq => by
  rcases List.mem_cons.mp hq with rfl | hq
  · exact Nat.ne_of_lt (h _ (.head _))
  · exact fill_keepA (fun q hq => h q (.tail _ hq)) q hq
theorem fill_new {kv : List (Str × Value)} {v : Value} {done rest all : List Str} {r : Str} (hn : (kv.map (·.1) ++ all).Nodup) (e : done ++ r :: rest = all) : r ∉ (kv ++ done.map fun x => (x, v)).map (·.1) := by
  have := nodup_new (e ▸ hn)
  intro h; apply this
  simp only [List.map_append, List.map_map, List.mem_append, List.mem_map] at h ⊢
  rcases h with h | ⟨y, hy, rfl⟩
  · exact .inl h
  · exact .inr hy
theorem fill_len {kv : List (Str × Value)} {v : Value} {done rest all : List Str} {r : Str} (hn : kv.length + all.length ≤ 100) (e : done ++ r :: rest = all) : (kv ++ done.map fun x => (x, v)).length ≤ 100 := by
  have := congrArg List.length e
  simp only [List.length_append, List.length_cons, List.length_map] at this ⊢
  omega
end

noncomputable def gen1 : List Str := [Str.mk #[65, 73, 78, 84], Str.mk #[65, 78, 73, 78, 84], Str.mk #[78, 73, 78, 84], Str.mk #[76, 79, 71, 49, 48], Str.mk #[84, 65, 78], Str.mk #[65, 83, 73, 78], Str.mk #[65, 67, 79, 83], Str.mk #[65, 84, 65, 78], Str.mk #[65, 84, 65, 78, 50], Str.mk #[83, 73, 78, 72], Str.mk #[67, 79, 83, 72], Str.mk #[84, 65, 78, 72]]
noncomputable def gen2 : List Str := [Str.mk #[83, 81, 82, 84], Str.mk #[69, 88, 80], Str.mk #[76, 79, 71], Str.mk #[83, 73, 78], Str.mk #[67, 79, 83]]
noncomputable def genKv0 : List (Str × Value) := (genTab.take 10).map fun p => (p.1, .ref p.2)
noncomputable def genKv1 : List (Str × Value) := genKv0 ++ gen1.map fun x => (x, .ref 53)
def Hold (p : Prop) : Prop := p
theorem of_hold {p : Prop} (h : Hold p) : p := h
section
theorem kw_G2_1 : True := by
  k_with_none
  k_with "m:eval Dict" =>
    (k_here; (with_reducible refine' dict_names genKv0 ?kwF ?kwN ?kwbg ?kwz ?kwa ?kwb (List.cons_ne_nil _ _) ?kwc ?kwe ?_; (case kwbg => exact TopRead.nolimit (by k_asm)); (case kwF => k_asm); (case kwN => k_asm); (case kwz => with_unfolding_all rfl); (case kwa => with_unfolding_all rfl); (case kwb => with_unfolding_all rfl); (case kwc => with_unfolding_all decide); (case kwe => decide +kernel); k_whole); intro hp' F'; (try k_sweep))
  k_with "m:evalPairs" =>
    refine pairTrees_nil_walk ?_
  k_with "m:evalPairs" =>
    refine pairTrees_cons_walk ?_
  k_with "m:PairsEnd" =>
    (refine ⟨rfl, rfl, rfl, ?_⟩; intro D0 h' o' tk' hsys l1 F' N' hd'; (try k_lt l1); (try k_sweep))
  k_with "m:exec For Name List cons nil" =>
    refine of_hold ?_
  k_with "m:setItem ref str" =>
    (k_here; k_dflt (refine' set_new ?kwF ?kwN ?kwU ?kwd ?kwl ?kwx ?_; (case kwF => k_asm); (case kwN => k_asm); (case kwU => k_updF); (case kwd => assumption); (case kwl => exact fill_len (by decide) hall); (case kwx => exact fill_new (by decide +kernel) hall)); intro h' o' F' N' hd'; (try dsimp only at N'); (try k_sweep))
  k_with "m:ItemsRest" =>
    refine of_hold ?_
  trivial
theorem ct_generic {w : World} {p : Program} {loose : List Str} {mean : ExcName → Option Value} {mg mb : Str → Option Value} {news : List (Addr × Obj)}
  {dp un : Nat} {gd : Option (List Code)} {cn : Str} {cs : Scope} {a : Addr} {ccd : Value} {cl : List (Str × Addr)} {outer : List Env} {A₀ : Around} {base h₀ : Heap} {L : Addr} {m : Str → Option Value} {s : Shared} {Q E : Value → Shared → Prop} :
  Below A₀ base outer h₀ → Fr h₀ L s.heap m → (hd.heap_39 w.params).In h₀ → Top p loose mean mg mb h₀ → cs.kind = .function → dp < 350 → un < 100 → News h₀ L s.heap news →
  (∀ D od h' tk', (D == sysModules) = false → DictRows (fun (a : Addr) v => v = .ref a) od genTab → Fr h₀ L h' m → News h₀ L h' ((D, od) :: news) → Q (.ref D) { s with heap := h', toks := tk' }) →
  wpAny (model Challenge.rw_no0227_01.row.prog w) (ktrTop dp un gd cn cs L a ccd cl outer) (call (.ref 61) []) Q E s := by
  k_fill
  intro B F X T hk hdp hun N hret
  refine wpAny_call ?_
  k_dflt cell_enter
  k_with "pyIter ref" => (k_dflt (refine' iter_listTurns ?a ?b ?c ?d ?e ?f ?_; (case b => k_asm); (case c => k_asm); (case d => k_mem); (case a => exact rfl); (case e => exact rfl); (case f => exact rfl)); intro I0 hI0; have hI1 := hI0; k_lt hI0)
  k_steps
  unfold Hold
  rename Fr _ _ _ _ => lF'
  with_reducible refine' For_turns lF' ?hw ?hs9 ?hE9
  case hE9 => passes_own
  case hs9 => (intro _; rfl)
  k_steps
  unfold Hold
  with_reducible refine' fill_restA (cur := fun y => if y = Str.ofString "found" then some (.ref D0) else none) (.ref 53) gen1 ?hsub ?hd ?hm ?hv ?turn ?fin
  case hd => assumption
  case hm => with_unfolding_all rfl
  case hsub => (intro _; k_subL)
  case hv => (repeat (first | exact StrsAre.nil | refine StrsAre.cons _ _ ?_))
  case turn =>
    intro s9 Q9 E9 done r more tk x or h t hall hP F' o ho N'
    replace hP : Obj.IsDictOf _ _ _ := hP
    k_steps
    exact fill_back (fill_keepA hI1) (by assumption) (by assumption) (by assumption)
  case fin =>
    intro x or h t hP F' N'
    replace hP : Obj.IsDictOf _ _ genKv1 := hP
    clear hI0 hI1
    k_steps
    unfold Hold
    rename Fr _ _ _ _ => lF'
    with_reducible refine' For_turns lF' ?hw2 ?hs2 ?hE2
    case hE2 => passes_own
    case hs2 => (intro _; rfl)
    k_steps
    unfold Hold
    with_reducible refine' fill_restB (.ref 54) gen2 ?hsub ?hd ?hm ?hv ?turn ?fin
    case hd => assumption
    case hm => rfl
    case hsub => (intro _; k_subL)
    case hv => (repeat (first | exact StrsAre.nil | refine StrsAre.cons _ _ ?_))
    case turn =>
      intro s9 Q9 E9 done r more tk x or h t hall hP F' o ho N'
      replace hP : Obj.IsDictOf _ _ _ := hP
      k_steps
      exact fill_back (fill_keepB hI1) (by assumption) (by assumption) (by assumption)
    case fin =>
      intro x or h t hP F' N'
      replace hP : Obj.IsDictOf _ _ _ := hP
      k_steps
      exact hret _ _ _ _ hsys (dictOf_rows hP (by decide) (by decide)) (by assumption) (news_of (by assumption) fun p hp => .tail _ (.tail _ hp))
end
theorem kw_G2_2 : True := by
  k_with_none
  trivial
end

section
open PySem PySem.W PyProof.Rows PySem.Calls PyProof.V
section
variable {prog : Program} {w : World} {K : Type} [DecidableEq K] {knd : PySem.KeyKind prog w K} {A : Around} {E : Value → Shared → Prop} {s : Shared}
/-- a new row, its key's hash known -/
theorem put_new {d : Addr} {kvs : List (K × Value)} {k : K} {key v : Value} {Q : Unit → Shared → Prop} (hkey : knd.is k key = true) (hm : s.heap.DictOf knd d kvs) (hx : k ∉ kvs.map (·.1)) (hl : kvs.length ≤ 100)
    (hQ : ∀ h', h'.DictOf knd d (kvs ++ [(k, v)]) → Heap.SameBut d s.heap h' → Q () { s with heap := h' }) :
    wpAny (model prog w) A (dictPut d (knd.hash k) key v) Q E s := by
  obtain ⟨o, es, ep, ho, hc, hd, hk, hp, hn⟩ := hm
  have hes : es.size ≤ sizeLine := by
    have e1 := hp.length
    have e2 : es.toList.length = es.size := by simp
    rw [sizeLine_eq]; omega
  unfold dictPut
  refine wpAny_bind (wpAny_dictFind_of hkey ho hd hk ?_)
  have hi : (es.findIdx? fun e => knd.is k e.key) = none := by
    have e : (es.findIdx? fun e => knd.is k e.key) = kvs.findIdx? fun kv => decide (kv.1 = k) := by
      rw [← hp.findIdx k]; obtain ⟨l⟩ := es; simp
    rw [e, List.findIdx?_eq_none_iff]
    intro p hp' 
    rw [decide_eq_false_iff_not]
    exact fun z => hx (List.mem_map.mpr ⟨p, hp', z⟩)
  rw [hi]
  refine wpAny_updateDictKeys (hz := hes) ho hd (hQ _ ⟨_, _, ep + 1, Heap.get?_update_self _ ho (Obj.isFreed_of_dict (Obj.data_mapDictKeys hd _)), hc.mapDictKeys _, Obj.data_mapDictKeys hd _, hk.push hkey _, ?_, ?_⟩ (Heap.SameBut.update ..))
  · obtain ⟨l⟩ := es
    simpa using hp.append hkey (knd.hash k) v
  · rw [List.map_append, List.nodup_append]
    exact ⟨hn, by simp, fun a ha b hb e => hx (by rw [List.map_cons, List.map_nil, List.mem_singleton] at hb; subst e; subst hb; exact ha)⟩
theorem any_pos {c : Prop} [Decidable c] {α : Type} {M : Model} {A : Around} {x y : Sem α} {Q : α → Shared → Prop} {E : Value → Shared → Prop} {s : Shared} (hc : c) (h : wpAny M A x Q E s) : wpAny M A (if c then x else y) Q E s := by rw [if_pos hc]; exact h
theorem any_neg {c : Prop} [Decidable c] {α : Type} {M : Model} {A : Around} {x y : Sem α} {Q : α → Shared → Prop} {E : Value → Shared → Prop} {s : Shared} (hc : ¬ c) (h : wpAny M A y Q E s) : wpAny M A (if c then x else y) Q E s := by rw [if_neg hc]; exact h
theorem merge_new {d a : Addr} {kd ka : List (K × Value)} {Q : Unit → Shared → Prop} (hd : s.heap.DictOf knd d kd) (ha : s.heap.DictOf knd a ka) (hne : a ≠ d) (hsys : (a == sysModules) = false) (h0 : kd ≠ [])
    (hn : ((kd ++ ka).map (·.1)).Nodup) (hl : (kd ++ ka).length ≤ 100)
    (hQ : ∀ h', h'.DictOf knd d (kd ++ ka) → Heap.SameBut d s.heap h' → Q () { s with heap := h' }) :
    wpAny (model prog w) A (mergeMapping d (.ref a) false) Q E s := by
  obtain ⟨od, esd, epd, hod, hcd, hdd, hkd, hpd, hnd⟩ := id hd
  obtain ⟨oa, es, ep, hoa, hca, hda, hka, hpa, hna⟩ := id ha
  have hlen : ka.length = es.size := by rw [← hpa.length]; simp
  unfold mergeMapping
  refine wpAny_bind (wpAny_isInstance ha.typeIs isSubtype_dict_dict ?_)
  refine any_pos rfl ?_
  refine wpAny_bind (wpAny_specialOf ha.typeIs PySem.F.slot_dict_iter.lookup (wpAny_bind (wpAny_pure ?_)))
  refine any_neg (by rw [hsys]; simp) ?_
  refine wpAny_bind (wpAny_dictEntries hod hdd ?_)
  refine any_neg (fun z => h0 (List.length_eq_zero_iff.mp (by rw [← hpd.length, Array.isEmpty_iff.mp z]; rfl))) ?_
  refine wpAny_bind (wpAny_dictEntries hoa hda ?_)
  refine wpAny_bind (wpAny_dictEpoch hoa hda ?_)
  refine wpAny_bind ?_
  rw [List.range_eq_range']
  refine wpAny_forIn_list _
    (fun rest _ s' => ∃ h' i, s' = { s with heap := h' } ∧ rest = List.range' i (es.size - i) ∧ i ≤ es.size ∧ h'.DictOf knd d (kd ++ ka.take i) ∧ h'.get? a = some oa ∧ Heap.SameBut d s.heap h')
    _ ?_ ?_ _ _ ⟨s.heap, 0, rfl, by simp, Nat.zero_le _, by simpa using hd, hoa, Heap.SameBut.refl _ _⟩
  · rintro x rest b s' ⟨h', i, rfl, hr, hi, hd', hoa', hs'⟩
    have hlt : i < es.size := by
      rcases Nat.lt_or_ge i es.size with h | h
      · exact h
      · rw [Nat.sub_eq_zero_of_le h] at hr; simp at hr
    obtain ⟨rfl, hrest⟩ : x = i ∧ rest = List.range' (i + 1) (es.size - (i + 1)) := by
      have e : es.size - i = (es.size - (i + 1)) + 1 := by omega
      rw [e, List.range'_succ] at hr
      injection hr with h1 h2
      exact ⟨h1, h2⟩
    refine wpAny_bind (wpAny_dictEntries hoa' hda ?_)
    rw [Array.getElem?_eq_getElem hlt]
    obtain ⟨k, v, hkv⟩ : ∃ k v, ka[x]? = some (k, v) := ⟨(ka[x]'(by rw [hlen]; exact hlt)).1, _, List.getElem?_eq_getElem _⟩
    obtain ⟨hkey, hval⟩ := hpa.get? (e := es[x]) (by simp [hlt]) hkv
    obtain ⟨k', hkey', hhash⟩ := hka es[x] (Array.getElem_mem hlt)
    obtain rfl : k' = k := knd.inj _ _ _ hkey' hkey
    dsimp only
    rw [if_neg Bool.false_ne_true, hhash, hval]
    have htk : ka.take (x + 1) = ka.take x ++ [(k', v)] := by rw [List.take_add_one, hkv]; rfl
    have hsub : ((kd ++ ka.take (x + 1)).map (·.1)).Nodup := hn.sublist (((List.Sublist.refl kd).append (List.take_sublist _ _)).map _)
    have hsz : (kd ++ ka.take x).length ≤ 100 := by
      have e1 : (ka.take x).length ≤ ka.length := by rw [List.length_take]; omega
      rw [List.length_append] at hl ⊢; omega
    refine wpAny_bind (wpAny_holding (put_new hkey hd' (fun z => ?_) hsz fun h'' hd'' hs'' => ?_))
    · rw [htk, ← List.append_assoc, List.map_append, List.nodup_append] at hsub
      exact hsub.2.2 k' z k' (.head _) rfl
    · have hoa'' : h''.get? a = some oa := (hs''.2 a hne).trans hoa'
      refine wpAny_bind (wpAny_dictEpoch hoa'' hda ?_)
      rw [if_neg (by simp)]
      exact wpAny_pure ⟨h'', x + 1, rfl, hrest, hlt, by rw [htk, ← List.append_assoc]; exact hd'', hoa'', hs'.trans hs''⟩
  · rintro b s' ⟨h', i, rfl, hr, hi, hd', hoa', hs'⟩
    have hin : i = es.size := by
      rcases Nat.lt_or_ge i es.size with h | h
      · have e : es.size - i = (es.size - (i + 1)) + 1 := by omega
        rw [e, List.range'_succ] at hr; exact nomatch hr
      · exact Nat.le_antisymm hi h
    refine wpAny_pure (hQ h' ?_ hs')
    rw [hin, ← hlen, List.take_length] at hd'; exact hd'
end
end

section
open PySem PySem.W PyProof.Rows PySem.Calls PyProof.V
theorem forIn_into (a : Option Addr) (rest : List (Option (Sem Value) × Sem Value)) (f : (Option (Sem Value) × Sem Value) → (Option Addr × List (Sem Value × Sem Value)) → Sem (ForInStep (Option Addr × List (Sem Value × Sem Value))))
    (hf : ∀ (p : Sem Value × Sem Value) (run : List (Sem Value × Sem Value)), run.length + 1 < 17 → f (some p.1, p.2) (a, run) = pure (.yield (a, run ++ [p]))) :
    ∀ (items run : List (Sem Value × Sem Value)), run.length + items.length < 17 → forIn ((items.map fun p => (some p.1, p.2)) ++ rest) (a, run) f = forIn rest (a, run ++ items) f
  | [], run, _ => by simp
  | p :: items, run, h => by
    rw [List.map_cons, List.cons_append, List.forIn_cons, hf p run (by simp at h; omega), pure_bind]
    have := forIn_into a rest f hf items (run ++ [p]) (by simp at h ⊢; omega)
    simpa using this
section
variable {prog : Program} {w : World} {A : Around} {E : Value → Shared → Prop} {s : Shared}
/-- a dict display of 17 pairs and some more, 16 at most -/
theorem disp_two {ps qs : List (Sem Value × Sem Value)} {p : Sem Value × Sem Value} {Q : Value → Shared → Prop} (h1 : ps.length = 16) (h2 : qs ≠ []) (h3 : qs.length < 17)
    (h : wpAny (model prog w) A (subDict (ps ++ [p])) (fun d s₁ => wpAny (model prog w) A (subDict qs) (fun a s₂ => wpAny (model prog w) A (mergeMapping d (.ref a) false) (fun _ s₃ => Q (.ref d) s₃) (fun _ _ => False) s₂) E s₁) E s) :
    wpAny (model prog w) A (dictDisplay ((ps ++ p :: qs).map fun p => (some p.1, p.2))) Q E s := by
  unfold dictDisplay
  dsimp only
  rw [List.map_append, List.map_cons, forIn_into none _ _ (fun p run h => by
    have hne : ((run ++ [(p.1, p.2)]).length == 17) = false := by simp; omega
    simp only [hne, Bool.false_eq_true, if_false]) ps [] (by simp [h1]), List.forIn_cons]
  have h17 : (([] ++ ps ++ [(p.1, p.2)]).length == 17) = true := by simp [h1]
  refine wpAny_bind (wpAny_bind ?_)
  dsimp only
  rw [if_pos h17]
  rw [if_neg (by simp)]
  refine wpAny_bind (wpAny_bind (wpAny_mono (by simpa using h) (fun d s₁ h₁ => ?_) fun _ _ x => x))
  refine wpAny_pure (wpAny_pure ?_)
  dsimp only
  rw [← List.append_nil (List.map (fun p => (some p.1, p.2)) qs), forIn_into (some d) [] _ (fun p run h => by
    have hne : ((run ++ [(p.1, p.2)]).length == 17) = false := by simp; omega
    simp only [hne, Bool.false_eq_true, if_false]) qs [] (by simpa using h3), List.forIn_nil]
  refine wpAny_pure ?_
  dsimp only
  rw [if_neg (by simpa using h2)]
  refine wpAny_bind (wpAny_bind (wpAny_holding (wpAny_mono (by simpa using h₁) (fun a s₂ h₂ => ?_) fun _ _ x => x)))
  refine wpAny_bind (wpAny_onRaise (wpAny_holding (wpAny_mono h₂ (fun _ s₃ h₃ => ?_) fun _ _ x => x.elim)))
  exact wpAny_pure (wpAny_pure h₃)
end
end

section
open PySem PySem.W PyProof.Rows PySem.Calls PyProof.V
/-- rows of tuples (operation, kind), as the ledger has them -/
inductive SRows (tups : List (Addr × Obj)) : List (Str × Str × Int) → List (Str × Value) → Prop
  | nil : SRows tups [] []
  | cons {x op : Str} {kd : Int} {a : Addr} {t1 t2 : Tok} {ds : List (Str × Str × Int)} {kvs : List (Str × Value)} : (a, pairObj op t1 kd t2) ∈ tups → SRows tups ds kvs → SRows tups ((x, op, kd) :: ds) ((x, .ref a) :: kvs)
theorem SRows.mono {tups tups' : List (Addr × Obj)} (hs : ∀ p ∈ tups, p ∈ tups') {ds : List (Str × Str × Int)} {kvs : List (Str × Value)} (h : SRows tups ds kvs) : SRows tups' ds kvs := by
  induction h with
  | nil => exact .nil
  | cons hm _ ih => exact .cons (hs _ hm) ih
theorem SRows.app {tups : List (Addr × Obj)} {ds ds' : List (Str × Str × Int)} {kvs kvs' : List (Str × Value)} (h : SRows tups ds kvs) (h' : SRows tups ds' kvs') : SRows tups (ds ++ ds') (kvs ++ kvs') := by
  induction h with
  | nil => exact h'
  | cons hm _ ih => exact .cons hm ih
theorem SRows.keys {tups : List (Addr × Obj)} {ds : List (Str × Str × Int)} {kvs : List (Str × Value)} (h : SRows tups ds kvs) : kvs.map (·.1) = ds.map (·.1) := by
  induction h with
  | nil => rfl
  | cons _ _ ih => rw [List.map_cons, List.map_cons, ih]
theorem SRows.len {tups : List (Addr × Obj)} {ds : List (Str × Str × Int)} {kvs : List (Str × Value)} (h : SRows tups ds kvs) : kvs.length = ds.length := by
  have := congrArg List.length h.keys
  simpa using this
/-- the dict D under way: its rows so far, its tuples in the ledger -/
structure SAt (prog : Program) (w : World) (D : Addr) (done : List (Str × Str × Int)) (od : Obj) (tups : List (Addr × Obj)) : Prop where
  out : ∃ kvs, od.IsDictOf (PySem.strKind prog w) kvs ∧ SRows tups done kvs
  off : ∀ p ∈ tups, D < p.1
  cls : ∀ p ∈ tups, p.2.cls = .type "tuple"
/-- a pair of a display: a text, a tuple -/
def PairOk (prog : Program) (w : World) (A : Around) (E : Value → Shared → Prop) (h₀ : Heap) (L : Addr) (m : Str → Option Value) (p : Sem Value × Sem Value) (r : Str × Str × Int) : Prop :=
  ∀ (s : Shared) (news : List (Addr × Obj)) (Q : Value → Value → Shared → Prop), Fr h₀ L s.heap m → News h₀ L s.heap news →
    (∀ tk a t1 t2 h' tk', (∀ q ∈ news, q.1 < a) → Fr h₀ L h' m → News h₀ L h' ((a, pairObj r.2.1 t1 r.2.2 t2) :: news) → Q (.str r.1 tk) (.ref a) { s with heap := h', toks := tk' }) →
    wpAny (model prog w) A p.1 (fun kv s₁ => wpAny (model prog w) A p.2 (fun vv s₂ => Q kv vv s₂) E s₁) E s
inductive PairsOk (prog : Program) (w : World) (A : Around) (E : Value → Shared → Prop) (h₀ : Heap) (L : Addr) (m : Str → Option Value) : List (Sem Value × Sem Value) → List (Str × Str × Int) → Prop
  | nil : PairsOk prog w A E h₀ L m [] []
  | cons {p : Sem Value × Sem Value} {r : Str × Str × Int} {ps : List (Sem Value × Sem Value)} {rs : List (Str × Str × Int)} : PairOk prog w A E h₀ L m p r → PairsOk prog w A E h₀ L m ps rs → PairsOk prog w A E h₀ L m (p :: ps) (r :: rs)
section
variable {prog : Program} {w : World} {A : Around} {E : Value → Shared → Prop} {h₀ : Heap} {L : Addr} {m : Str → Option Value}
/-- d[x] = (op, kd), the tuple just made, x new -/
theorem put_row {s : Shared} {D a : Addr} {od : Obj} {tups news : List (Addr × Obj)} {done : List (Str × Str × Int)} {x op : Str} {tk t1 t2 : Tok} {kd : Int} {Q : Unit → Shared → Prop} (F : Fr h₀ L s.heap m) (N : News h₀ L s.heap ((a, pairObj op t1 kd t2) :: (D, od) :: (tups ++ news)))
    (ha : ∀ q ∈ (D, od) :: (tups ++ news), q.1 < a) (S : SAt prog w D done od tups) (hD : ∀ p ∈ news, p.1 ≠ D) (hx : x ∉ done.map (·.1)) (hl : done.length ≤ 100)
    (k : ∀ od' h', Fr h₀ L h' m → News h₀ L h' ((D, od') :: (((a, pairObj op t1 kd t2) :: tups) ++ news)) → SAt prog w D (done ++ [(x, op, kd)]) od' ((a, pairObj op t1 kd t2) :: tups) → Q () { s with heap := h', toks := s.toks + 1 }) :
    wpAny (model prog w) A (dictSet D (.str x tk) (.ref a)) Q E s := by
  obtain ⟨kvs, hd, hr⟩ := S.out
  have hm := N (D, od) (.tail _ (.head _))
  have hxk : x ∉ kvs.map (·.1) := by rw [hr.keys]; exact hx
  refine wpAny_dictSet_pairs (hsz := by rw [sizeLine_eq, hr.len]; omega) (strKind_is prog w x tk) (Heap.dictOf_iff.mpr ⟨od, hm.1, hd⟩) fun h' hmm hs => ?_
  obtain ⟨o', ho', hd'⟩ := Heap.dictOf_iff.mp hmm
  rw [stored_new hxk] at hd'
  have aD : a ≠ D := Nat.ne_of_gt (ha (D, od) (.head _))
  have N' := News.setIn (own := [(a, pairObj op t1 kd t2)]) (rest := tups ++ news) N (List.forall_mem_cons.mpr ⟨aD, List.forall_mem_nil _⟩) (fun p hp => (List.mem_append.mp hp).elim (fun z => Nat.ne_of_gt (S.off p z)) (hD p)) hs ho'
  refine k o' h' (F.change hs hm.2.1 hm.2.2) (fun p hp => N' p ?_) ⟨⟨_, hd', (hr.mono fun p hp => .tail _ hp).app (.cons (.head _) .nil)⟩, List.forall_mem_cons.mpr ⟨ha (D, od) (.head _), S.off⟩, List.forall_mem_cons.mpr ⟨rfl, S.cls⟩⟩
  rcases List.mem_cons.mp hp with rfl | hp
  · exact .tail _ (.head _)
  · rcases List.mem_cons.mp hp with rfl | hp
    · exact .head _
    · exact .tail _ (.tail _ hp)
noncomputable def storeOne (D : Addr) (x : Sem Value × Sem Value) (_ : PUnit) : Sem (ForInStep PUnit) := do
  let kv ← x.1
  let vv ← holding [kv] x.2
  holding [kv, vv] (dictSet D kv vv)
  pure (ForInStep.yield PUnit.unit)
theorem sub_go {D : Addr} {news : List (Addr × Obj)} (hD : ∀ p ∈ news, p.1 ≠ D) {Q : PUnit → Shared → Prop} : ∀ {ps : List (Sem Value × Sem Value)} {rs : List (Str × Str × Int)}, PairsOk prog w A E h₀ L m ps rs → ∀ (done : List (Str × Str × Int)), ((done ++ rs).map (·.1)).Nodup → (done ++ rs).length ≤ 100 →
    ∀ (s : Shared) (od : Obj) (tups : List (Addr × Obj)), Fr h₀ L s.heap m → News h₀ L s.heap ((D, od) :: (tups ++ news)) → SAt prog w D done od tups →
    (∀ od' tups' h' tk', Fr h₀ L h' m → News h₀ L h' ((D, od') :: (tups' ++ news)) → SAt prog w D (done ++ rs) od' tups' → Q PUnit.unit { s with heap := h', toks := tk' }) →
    wpAny (model prog w) A (forIn ps PUnit.unit (storeOne D)) Q E s
  | _, _, .nil, done, _, _, s, od, tups, F, N, S, k => by
    rw [List.forIn_nil]
    exact wpAny_pure (k od tups s.heap s.toks F N (by simpa using S))
  | _, _, .cons (p := p) (r := (x, op, kd)) (ps := ps) (rs := rs) hp hps, done, hn, hl, s, od, tups, F, N, S, k => by
    rw [List.forIn_cons]
    refine wpAny_bind (wpAny_bind (wpAny_mono (hp s _ (fun kv vv s₂ => wpAny (model prog w) A (holding [kv, vv] (dictSet D kv vv) >>= fun _ => pure (ForInStep.yield PUnit.unit)) (fun a s' => wpAny (model prog w) A (match a with
        | .done b => pure b
        | .yield b => forIn ps b (storeOne D)) Q E s') E s₂) F N fun tk a t1 t2 h' tk' ha F' N' => ?_) (fun kv s₁ h₁ => wpAny_bind (wpAny_holding (wpAny_mono h₁ (fun vv s₂ h₂ => wpAny_mono h₂ (fun a s' h => by cases a <;> exact h) fun _ _ e => e) fun _ _ e => e))) fun _ _ e => e))
    have hx : x ∉ done.map (·.1) := fun z => by
      rw [List.map_append, List.nodup_append] at hn
      exact hn.2.2 x z x (.head _) rfl
    have hl' : done.length ≤ 100 := by rw [List.length_append] at hl; omega
    refine wpAny_bind (wpAny_holding (put_row F' N' ha S hD hx hl' fun od' h'' F'' N'' S'' => wpAny_pure ?_))
    exact sub_go hD hps (done ++ [(x, op, kd)]) (by simpa using hn) (by simpa using hl) _ _ _ F'' N'' S'' fun od3 tups3 h3 tk3 F3 N3 S3 => k od3 tups3 h3 tk3 F3 N3 (by simpa using S3)
theorem sub_rows {ps : List (Sem Value × Sem Value)} {rs : List (Str × Str × Int)} {s : Shared} {news : List (Addr × Obj)} {Q : Addr → Shared → Prop} (hbig : h₀.NoLimit) (F : Fr h₀ L s.heap m) (N : News h₀ L s.heap news) (hp : PairsOk prog w A E h₀ L m ps rs) (h15 : 15 < ps.length) (hn : (rs.map (·.1)).Nodup) (hl : rs.length ≤ 100)
    (k : ∀ D od tups h' tk', (∀ p ∈ news, p.1 < D) → (D == sysModules) = false → Fr h₀ L h' m → News h₀ L h' ((D, od) :: (tups ++ news)) → SAt prog w D rs od tups → Q D { s with heap := h', toks := tk' }) :
    wpAny (model prog w) A (subDict ps) Q E s := by
  have hlt : ∀ p ∈ news, p.1 < s.heap.objs.size := fun p hp => Heap.lt_size (N p hp).1
  obtain ⟨o, ho, hd⟩ := Heap.dictOf_iff.mp (Heap.DictOf.new (knd := PySem.strKind prog w) s.heap)
  have eo : o = { cls := .type "dict", data := .dict #[] } := Option.some.inj (ho.symm.trans (Heap.get?_push_size _ rfl))
  subst eo
  unfold subDict
  refine wpAny_bind (wpAny_alloc (wpAny_bind (wpAny_holding ?_)))
  rw [if_neg (by omega)]
  refine wpAny_bind (wpAny_rule ?_)
  have step := sub_go (prog := prog) (w := w) (A := A) (E := E) (m := m) (D := s.heap.objs.size) (news := news) (Q := fun _ s' => Q s.heap.objs.size s') (fun p hp => Nat.ne_of_lt (hlt p hp)) hp [] (by simpa using hn) (by simpa using hl)
    { s with heap := s.heap.push { cls := .type "dict", data := .dict #[] } } _ [] (F.push _) (News.push F N _) ⟨⟨[], hd, .nil⟩, List.forall_mem_nil _, List.forall_mem_nil _⟩
    fun od' tups' h' tk' F' N' S' => k _ od' tups' h' tk' hlt (F.notModules (modules_low hbig)) F' N' (by simpa using S')
  exact wpAny_bind (wpAny_mono step (fun _ s' h => wpAny_pure (wpAny_pure h)) fun _ _ e => e)
/-- a display of 17 pairs and 16 more -/
theorem dict_rows {keys : List (Option Expr)} {values : List Expr} {env : Env} {pos : Pos} (rs rs' : List (Str × Str × Int)) {s : Shared} {news : List (Addr × Obj)} {Q : Value → Shared → Prop}
    (hbig : h₀.NoLimit) (F : Fr h₀ L s.heap m) (N : News h₀ L s.heap news) (hall : keys.all (·.isSome) = true) (hl : keys.length = values.length) (h33 : keys.length = 33) (hn : ((rs ++ rs').map (·.1)).Nodup) (hr : rs.length = 17) (hr' : rs'.length = 16)
    (hp : PairsOk prog w A E h₀ L m ((pairTrees keys values env pos).take 17) rs) (hq : PairsOk prog w A E h₀ L m ((pairTrees keys values env pos).drop 17) rs')
    (k : ∀ D od tups h' tk', (∀ p ∈ news, p.1 < D) → (D == sysModules) = false → Fr h₀ L h' m → News h₀ L h' ((D, od) :: (tups ++ news)) → SAt prog w D (rs ++ rs') od tups → Q (.ref D) { s with heap := h', toks := tk' }) :
    wpAny (model prog w) A (eval (.Dict keys values pos) env) Q E s := by
  have hlen33 := (pairTrees_length keys values env pos hall hl).trans h33
  rw [arm_eval_Dict, zip_pairTrees keys values env pos hall hl]
  generalize pairTrees keys values env pos = tr at hp hq hlen33 ⊢
  have e16 : tr.take 17 = tr.take 16 ++ [tr[16]'(by omega)] := by rw [List.take_add_one, List.getElem?_eq_getElem (by omega)]; rfl
  have he : tr = tr.take 16 ++ (tr[16]'(by omega)) :: tr.drop 17 := by
    have := (List.take_append_drop 17 tr).symm
    rw [e16, List.append_assoc] at this
    exact this
  have h1 : (tr.take 16).length = 16 := by rw [List.length_take]; omega
  have h2 : (tr.drop 17).length = 16 := by rw [List.length_drop]; omega
  rw [e16] at hp
  rw [he]
  have hn' : (rs.map (·.1)).Nodup ∧ (rs'.map (·.1)).Nodup := by
    rw [List.map_append, List.nodup_append] at hn
    exact ⟨hn.1, hn.2.1⟩
  refine wpAny_bind (wpAny_standAt (disp_two h1 (fun z => by rw [z] at h2; cases h2) (by omega) ?_))
  refine sub_rows hbig F N hp (by rw [List.length_append, h1]; exact Nat.le_of_ble_eq_true rfl) hn'.1 (by omega) fun D od tups h' tk' hD hsys F' N' S' => ?_
  refine sub_rows (s := { s with heap := h', toks := tk' }) hbig F' N' hq (by omega) hn'.2 (by omega) fun D2 od2 tups2 h2 tk2 hD2 hsys2 F2 N2 S2 => ?_
  obtain ⟨kv, hd, hr1⟩ := S'.out
  obtain ⟨kv2, hd2, hr2⟩ := S2.out
  have hne : D2 ≠ D := Nat.ne_of_gt (hD2 (D, od) (.head _))
  have mD := N2 (D, od) (.tail _ (List.mem_append_right _ (.head _)))
  have mD2 := N2 (D2, od2) (.head _)
  have hkeys : (kv ++ kv2).map (·.1) = (rs ++ rs').map (·.1) := by rw [List.map_append, List.map_append, hr1.keys, hr2.keys]
  have hlen : (kv ++ kv2).length = 33 := by rw [List.length_append, hr1.len, hr2.len, hr, hr']
  refine merge_new (Heap.dictOf_iff.mpr ⟨od, mD.1, hd⟩) (Heap.dictOf_iff.mpr ⟨od2, mD2.1, hd2⟩) hne hsys2 (fun z => by have := hr1.len; rw [z, hr] at this; cases this) (by rw [hkeys]; exact hn) (by omega) fun h3 hm hs => ?_
  obtain ⟨o', ho', hd'⟩ := Heap.dictOf_iff.mp hm
  have off2 : ∀ p ∈ tups2, D < p.1 := fun p hp => Nat.lt_trans (hD2 (D, od) (.head _)) (S2.off p hp)
  have N3 := News.setIn (own := (D2, od2) :: tups2) (rest := tups ++ news) N2 (List.forall_mem_cons.mpr ⟨hne, fun p hp => Nat.ne_of_gt (off2 p hp)⟩) (fun p hp => (List.mem_append.mp hp).elim (fun z => Nat.ne_of_gt (S'.off p z)) (fun z => Nat.ne_of_lt (hD p z))) hs ho'
  refine k D o' (tups2 ++ tups) h3 tk2 hD hsys (F2.change hs mD.2.1 mD.2.2) (fun p hp => N3 p ?_) ⟨⟨_, hd', (hr1.mono fun p hp => List.mem_append_right _ hp).app (hr2.mono fun p hp => List.mem_append_left _ hp)⟩, fun p hp => (List.mem_append.mp hp).elim (off2 p) (S'.off p), fun p hp => (List.mem_append.mp hp).elim (S2.cls p) (S'.cls p)⟩
  rcases List.mem_cons.mp hp with rfl | hp
  · exact List.mem_append_right _ (.head _)
  · rw [List.append_assoc] at hp
    rcases List.mem_append.mp hp with hp | hp
    · exact .tail _ (List.mem_append_left _ hp)
    · exact List.mem_append_right _ (.tail _ hp)
end
end

section
open PySem PySem.W PyProof.Rows PySem.Calls PyProof.V
section
variable {prog : Program} {w : World} {A : Around} {E : Value → Shared → Prop} {s : Shared} {h₀ : Heap} {L : Addr} {m : Str → Option Value}
/-- found[x] = (op, kd) in a walk: the tuple goes to the dict's own -/
theorem set_row {D a : Addr} {od : Obj} {pre tups news : List (Addr × Obj)} {done : List (Str × Str × Int)} {x op : Str} {tk t1 t2 : Tok} {kd : Int} {Q : Unit → Shared → Prop} (F : Fr h₀ L s.heap m) (N : News h₀ L s.heap ((a, pairObj op t1 kd t2) :: (pre ++ (D, od) :: (tups ++ news))))
    (ha : D < a) (S : SAt prog w D done od tups) (hp : ∀ p ∈ pre, p.1 ≠ D) (hD : ∀ p ∈ news, p.1 ≠ D) (hx : x ∉ done.map (·.1)) (hl : done.length ≤ 100)
    (k : ∀ od' tups' h', Fr h₀ L h' m → News h₀ L h' (pre ++ (D, od') :: (tups' ++ news)) → SAt prog w D (done ++ [(x, op, kd)]) od' tups' → Q () { s with heap := h', toks := s.toks + 1 }) :
    wpAny (model prog w) A (setItem (.ref D) (.str x tk) (.ref a)) Q E s := by
  obtain ⟨kvs, hd, hr⟩ := S.out
  have hm := N (D, od) (.tail _ (List.mem_append_right _ (.head _)))
  refine wpAny_setItem_pairs (hsz := by rw [sizeLine_eq, hr.len]; omega) (strKind_is prog w x tk) (Heap.dictOf_iff.mpr ⟨od, hm.1, hd⟩) fun h' hmm hs => ?_
  obtain ⟨o', ho', hd'⟩ := Heap.dictOf_iff.mp hmm
  rw [stored_new (by rw [hr.keys]; exact hx)] at hd'
  have N' := News.setIn (own := (a, pairObj op t1 kd t2) :: pre) (rest := tups ++ news) N (List.forall_mem_cons.mpr ⟨Nat.ne_of_gt ha, hp⟩) (fun p hp => (List.mem_append.mp hp).elim (fun z => Nat.ne_of_gt (S.off p z)) (hD p)) hs ho'
  refine k o' ((a, pairObj op t1 kd t2) :: tups) h' (F.change hs hm.2.1 hm.2.2) (fun p hp => N' p ?_) ⟨⟨_, hd', (hr.mono fun p hp => .tail _ hp).app (.cons (.head _) .nil)⟩, List.forall_mem_cons.mpr ⟨ha, S.off⟩, List.forall_mem_cons.mpr ⟨rfl, S.cls⟩⟩
  rcases List.mem_append.mp hp with hp | hp
  · exact .tail _ (List.mem_append_left _ hp)
  · rcases List.mem_cons.mp hp with rfl | hp
    · exact .tail _ (List.mem_append_right _ (.head _))
    · rcases List.mem_cons.mp hp with rfl | hp
      · exact .head _
      · exact .tail _ (List.mem_append_right _ (.tail _ hp))
theorem set_row0 {D a : Addr} {od : Obj} {tups news : List (Addr × Obj)} {done : List (Str × Str × Int)} {x op : Str} {tk t1 t2 : Tok} {kd : Int} {Q : Unit → Shared → Prop} (F : Fr h₀ L s.heap m) (N : News h₀ L s.heap ((a, pairObj op t1 kd t2) :: (D, od) :: (tups ++ news)))
    (ha : D < a) (S : SAt prog w D done od tups) (hD : ∀ p ∈ news, p.1 ≠ D) (hx : x ∉ done.map (·.1)) (hl : done.length ≤ 100)
    (k : ∀ od' tups' h', Fr h₀ L h' m → News h₀ L h' ((D, od') :: (tups' ++ news)) → SAt prog w D (done ++ [(x, op, kd)]) od' tups' → Q () { s with heap := h', toks := s.toks + 1 }) :
    wpAny (model prog w) A (setItem (.ref D) (.str x tk) (.ref a)) Q E s := set_row (pre := []) F N ha S (List.forall_mem_nil _) hD hx hl k
theorem set_row2 {D a : Addr} {od : Obj} {p q : Addr × Obj} {tups news : List (Addr × Obj)} {done : List (Str × Str × Int)} {x op : Str} {tk t1 t2 : Tok} {kd : Int} {Q : Unit → Shared → Prop} (F : Fr h₀ L s.heap m) (N : News h₀ L s.heap ((a, pairObj op t1 kd t2) :: p :: q :: (D, od) :: (tups ++ news)))
    (ha : D < a) (S : SAt prog w D done od tups) (hp : ∀ x ∈ [p, q], x.1 ≠ D) (hD : ∀ p ∈ news, p.1 ≠ D) (hx : x ∉ done.map (·.1)) (hl : done.length ≤ 100)
    (k : ∀ od' tups' h', Fr h₀ L h' m → News h₀ L h' (p :: q :: (D, od') :: (tups' ++ news)) → SAt prog w D (done ++ [(x, op, kd)]) od' tups' → Q () { s with heap := h', toks := s.toks + 1 }) :
    wpAny (model prog w) A (setItem (.ref D) (.str x tk) (.ref a)) Q E s := set_row (pre := [p, q]) F N ha S hp hD hx hl k
end
section
variable {prog : Program} {w : World} {A : Around} {E : Value → Shared → Prop} {s : Shared} {h₀ : Heap} {env : Env} {target : Expr} {body : List Stmt} {Q : Flow → Shared → Prop}
theorem spec_rest {I D : Addr} {od : Obj} {l : Addr × Obj} {tups news : List (Addr × Obj)} {vs : List Value} {cur m1 : Str → Option Value} (f : Str → List (Str × Str × Int)) (base : List (Str × Str × Int)) (all : List Str) (hd : SAt prog w D base od tups) (hm : m1 = cur) (hv : StrsAre vs all)
    (turn : ∀ (s : Shared) (Q : Flow → Shared → Prop) (E : Value → Shared → Prop), ∀ done r more tk od tups or h t, done ++ r :: more = all → SAt prog w D (base ++ done.flatMap f) od tups → Fr h₀ env.locals h (nameMap cur or) → ∀ o : Obj, o.cls = .type "list_iterator" → News h₀ env.locals h ((I, o) :: l :: (D, od) :: (tups ++ news)) →
      wpAny (model prog w) A (assign target env (.str r tk)) (fun _ s₂ => wpAny (model prog w) A (execs body env) (UnrPostW h₀ env.locals { s with heap := h, toks := t } [(I, o)] (fun m' n' => (∃ x : Obj × List (Addr × Obj), n' = l :: (D, x.1) :: (x.2 ++ news) ∧ SAt prog w D (base ++ (done ++ [r]).flatMap f) x.1 x.2) ∧ ∃ a, m' = nameMap cur a) Q) E s₂) E { s with heap := h, toks := t })
    (fin : ∀ od tups or h t, SAt prog w D (base ++ all.flatMap f) od tups → Fr h₀ env.locals h (nameMap cur or) → News h₀ env.locals h (l :: (D, od) :: (tups ++ news)) → Q .next { s with heap := h, toks := t }) :
    ItemsRest prog w A E h₀ env target body Q s [(I, "list_iterator")] [l] (vs.map .val) m1 (l :: (D, od) :: (tups ++ news)) := by
  obtain ⟨ls, rfl, hl⟩ : ∃ l : List (Str × Tok), strValues l = vs ∧ l.map (·.1) = all := by
    clear turn fin
    induction hv with
    | nil => exact ⟨[], rfl, rfl⟩
    | cons y t _ ih => obtain ⟨l, h1, h2⟩ := ih; exact ⟨(y, t) :: l, by rw [← h1]; rfl, by rw [← h2]; rfl⟩
  have := grow_rest (prog := prog) (w := w) (A := A) (E := E) (s := s) (h₀ := h₀) (env := env) (target := target) (body := body) (Q := Q) (J := nameMap cur) (I := I) (keep := [l]) (σ := Obj × List (Addr × Obj)) (f := fun x => l :: (D, x.1) :: (x.2 ++ news)) (P := fun done x => SAt prog w D (base ++ done.flatMap f) x.1 x.2) (all := all) (fun _ => by k_subL)
    (fun done r rest tk x or h t e S F o ho N => turn s Q E done r rest tk x.1 x.2 or h t e S F o ho N) (fun x or h t S F N => fin x.1 x.2 or h t S F N) ls [] hl (od, tups) (cur (Str.ofString "name")) (by simpa using hd)
  rw [nameMap_self] at this
  rw [hm]; exact this
theorem spec_back {L I D : Addr} {o od od0 : Obj} {l : Addr × Obj} {tups tups0 news : List (Addr × Obj)} {s₁ : Shared} {cur : Str → Option Value} {or : Option Value} {v1 : Value} {h' : Heap} {tk : Nat} {f : Str → List (Str × Str × Int)} {base ds : List (Str × Str × Int)} {done : List Str} {r : Str} (hI : ∀ p ∈ l :: (D, od0) :: (tups0 ++ news), p.1 < I) (ho : o.cls = .type "list_iterator")
    (F : Fr h₀ L h' (fun y => if y = Str.ofString "name" then some v1 else nameMap cur or y)) (N : News h₀ L h' ((I, o) :: l :: (D, od) :: (tups ++ news))) (S : SAt prog w D ds od tups) (e : ds = base ++ (done ++ [r]).flatMap f) :
    UnrEndW h₀ L s₁ [(I, o)] (fun m' n' => (∃ x : Obj × List (Addr × Obj), n' = l :: (D, x.1) :: (x.2 ++ news) ∧ SAt prog w D (base ++ (done ++ [r]).flatMap f) x.1 x.2) ∧ ∃ a, m' = nameMap cur a) { s₁ with heap := h', toks := tk } :=
  ⟨h', tk, _, l :: (D, od) :: (tups ++ news), rfl, F, N, fun p hp q hq z => by
    rw [List.mem_singleton.mp hq] at z
    rcases List.mem_cons.mp hp with rfl | hp'
    · exact absurd (hI _ (.head _)) (by rw [z]; exact Nat.lt_irrefl _)
    · rcases List.mem_cons.mp hp' with rfl | hp'
      · exact absurd (hI (D, od0) (.tail _ (.head _))) (by rw [z]; exact Nat.lt_irrefl _)
      · rcases List.mem_append.mp hp' with hp' | hp'
        · have a1 := (N p (.tail _ hp)).1
          have a2 := (N (I, o) (.head _)).1
          rw [z] at a1
          have a3 := S.cls p hp'
          rw [Option.some.inj (a1.symm.trans a2), ho] at a3
          exact absurd a3 (by decide)
        · exact absurd (hI p (.tail _ (.tail _ (List.mem_append_right _ hp')))) (by rw [z]; exact Nat.lt_irrefl _), ⟨(od, tups), rfl, e ▸ S⟩, _, nameMap_step⟩
end
theorem row_new {f : Str → List (Str × Str × Int)} {base pre post : List (Str × Str × Int)} {all done more : List Str} {r x : Str} {v : Str × Int} (hn : ((base ++ all.flatMap f).map (·.1)).Nodup) (e : done ++ r :: more = all) (ef : f r = pre ++ (x, v) :: post) : x ∉ (base ++ done.flatMap f ++ pre).map (·.1) := by
  have e2 : base ++ all.flatMap f = (base ++ done.flatMap f ++ pre) ++ (x, v) :: (post ++ more.flatMap f) := by
    rw [← e, List.flatMap_append, List.flatMap_cons, ef]
    simp only [List.append_assoc, List.cons_append]
  rw [e2, List.map_append, List.nodup_append] at hn
  exact fun z => hn.2.2 x z x (.head _) rfl
theorem row_len {f : Str → List (Str × Str × Int)} {base pre post : List (Str × Str × Int)} {all done more : List Str} {r : Str} {n : Nat} (hn : (base ++ all.flatMap f).length ≤ n) (e : done ++ r :: more = all) (ef : f r = pre ++ post) : (base ++ done.flatMap f ++ pre).length ≤ n := by
  have e2 : base ++ all.flatMap f = (base ++ done.flatMap f ++ pre) ++ (post ++ more.flatMap f) := by
    rw [← e, List.flatMap_append, List.flatMap_cons, ef]
    simp only [List.append_assoc]
  rw [e2, List.length_append] at hn
  omega
end

section
open PySem PySem.W PyProof.Rows PySem.Calls PyProof.V
section
theorem kw_S5_1 : True := by
  k_with_none
  k_with "m:eval Name" =>
    (k_here; refine' nameX_K ?kwF ?kwX ?kwT hg ?_ hk hx hd; (case kwF => k_asm); (case kwX => k_asm); (case kwT => k_asm); k_whole)
  trivial
theorem pair_ok {w : World} {p : Program} {loose : List Str} {mean : ExcName → Option Value} {mg mb : Str → Option Value}
  {A : Around} {E : Value → Shared → Prop} {h₀ : Heap} {L : Addr} {m : Str → Option Value} {cn : Str} {cs : Scope} {a : Addr} {ccd : Value} {cl : List (Str × Addr)} {x op g : Str} {kd : Int} {t : Tok} {k1 k2 : Nat} {p1 p2 p3 p4 pos : Pos} {ec : Nat} :
  (hd.heap_39 w.params).In h₀ → Top p loose mean mg mb h₀ → nsIn (hd.heap_39 w.params) mainGlobals g = some (some (.int kd t)) → cs.kind = .function → (envX cn cs L a ccd cl).kindOf g = some .globalImplicit → (g == ("__debug__" : Str)) = false →
  PairOk Challenge.rw_no0227_01.row.prog w A E h₀ L m (eval (.Constant (.str x) k1 p1) (envX cn cs L a ccd cl), do let v ← eval (.Tuple [.Constant (.str op) k2 p2, .Name g p3] ec p4) (envX cn cs L a ccd cl); standAt pos; pure v) (x, op, kd) := by
  k_fill
  intro X T hg hk hx hd s news Q F N h
  dsimp only
  k_steps
  refine wpAny_bind (wpAny_mono (Q := fun v s₂ => Q (.str x s.toks) v s₂) ?_ (fun v s₂ h₂ => wpAny_bind (wpAny_standAt (wpAny_pure h₂))) fun _ _ e => e)
  k_steps
  exact h _ _ _ _ _ _ (by assumption) (by assumption) (by assumption)
end
theorem kw_S5_2 : True := by
  k_with_none
  trivial

section
variable {prog : Program} {w : World} {A : Around} {E : Value → Shared → Prop} {h₀ : Heap} {L : Addr} {m : Str → Option Value} {k v : Expr} {ks : List (Option Expr)} {vs : List Expr} {env : Env} {pos : Pos} {r : Str × Str × Int} {rs : List (Str × Str × Int)} {n : Nat}
theorem po_cons (h : PairOk prog w A E h₀ L m (eval k env, do let x ← eval v env; standAt pos; pure x) r) (t : PairsOk prog w A E h₀ L m ((pairTrees ks vs env pos).take n) rs) : PairsOk prog w A E h₀ L m ((pairTrees (some k :: ks) (v :: vs) env pos).take (n + 1)) (r :: rs) := .cons h t
theorem po_nil : PairsOk prog w A E h₀ L m ((pairTrees ks vs env pos).take 0) [] := by rw [List.take_zero]; exact .nil
theorem po_drop (t : PairsOk prog w A E h₀ L m ((pairTrees ks vs env pos).drop n) rs) : PairsOk prog w A E h₀ L m ((pairTrees (some k :: ks) (v :: vs) env pos).drop (n + 1)) rs := t
theorem po_all (h : PairOk prog w A E h₀ L m (eval k env, do let x ← eval v env; standAt pos; pure x) r) (t : PairsOk prog w A E h₀ L m ((pairTrees ks vs env pos).drop 0) rs) : PairsOk prog w A E h₀ L m ((pairTrees (some k :: ks) (v :: vs) env pos).drop 0) (r :: rs) := .cons h t
theorem po_end : PairsOk prog w A E h₀ L m ((pairTrees [] [] env pos).drop 0) [] := .nil
end
noncomputable def specA : List (Str × Str × Int) := [(Str.mk #[73, 70, 73, 88], Str.mk #[73, 78, 84], 1), (Str.mk #[73, 68, 73, 78, 84], Str.mk #[73, 78, 84], 2), (Str.mk #[70, 76, 79, 65, 84], Str.mk #[82, 69, 65, 76], 0), (Str.mk #[83, 78, 71, 76], Str.mk #[82, 69, 65, 76], 2), (Str.mk #[73, 67, 72, 65, 82], Str.mk #[73, 67, 72, 65, 82], 5), (Str.mk #[67, 72, 65, 82], Str.mk #[67, 72, 65, 82], 0), (Str.mk #[68, 73, 78, 84], Str.mk #[65, 73, 78, 84], 2), (Str.mk #[68, 78, 73, 78, 84], Str.mk #[65, 78, 73, 78, 84], 2), (Str.mk #[73, 68, 78, 73, 78, 84], Str.mk #[78, 73, 78, 84], 2), (Str.mk #[73, 65, 66, 83], Str.mk #[65, 66, 83], 0), (Str.mk #[68, 65, 66, 83], Str.mk #[65, 66, 83], 2), (Str.mk #[67, 65, 66, 83], Str.mk #[65, 66, 83], 3), (Str.mk #[65, 77, 79, 68], Str.mk #[77, 79, 68], 1), (Str.mk #[68, 77, 79, 68], Str.mk #[77, 79, 68], 2), (Str.mk #[73, 83, 73, 71, 78], Str.mk #[83, 73, 71, 78], 0), (Str.mk #[68, 83, 73, 71, 78], Str.mk #[83, 73, 71, 78], 2), (Str.mk #[73, 68, 73, 77], Str.mk #[68, 73, 77], 0)]
noncomputable def specB : List (Str × Str × Int) := [(Str.mk #[68, 68, 73, 77], Str.mk #[68, 73, 77], 2), (Str.mk #[68, 80, 82, 79, 68], Str.mk #[68, 80, 82, 79, 68], 1), (Str.mk #[77, 65, 88, 48], Str.mk #[77, 65, 88], 0), (Str.mk #[65, 77, 65, 88, 49], Str.mk #[77, 65, 88], 1), (Str.mk #[68, 77, 65, 88, 49], Str.mk #[77, 65, 88], 2), (Str.mk #[65, 77, 65, 88, 48], Str.mk #[65, 77, 65, 88, 48], 0), (Str.mk #[77, 65, 88, 49], Str.mk #[77, 65, 88, 49], 1), (Str.mk #[77, 73, 78, 48], Str.mk #[77, 73, 78], 0), (Str.mk #[65, 77, 73, 78, 49], Str.mk #[77, 73, 78], 1), (Str.mk #[68, 77, 73, 78, 49], Str.mk #[77, 73, 78], 2), (Str.mk #[65, 77, 73, 78, 48], Str.mk #[65, 77, 73, 78, 48], 0), (Str.mk #[77, 73, 78, 49], Str.mk #[77, 73, 78, 49], 1), (Str.mk #[76, 69, 78], Str.mk #[76, 69, 78], 5), (Str.mk #[73, 78, 68, 69, 88], Str.mk #[73, 78, 68, 69, 88], 5), (Str.mk #[65, 73, 77, 65, 71], Str.mk #[65, 73, 77, 65, 71], 3), (Str.mk #[67, 79, 78, 74, 71], Str.mk #[67, 79, 78, 74, 71], 3)]
noncomputable def spec1 (r : Str) : List (Str × Str × Int) := [(Str.ofString "D" ++ r, r, 2), (Str.ofString "C" ++ r, r, 3)]
noncomputable def spec2 (r : Str) : List (Str × Str × Int) := [(Str.ofString "D" ++ r, r, 2)]
noncomputable def spec3 (r : Str) : List (Str × Str × Int) := [(r, r, 5)]
noncomputable def sl1 : List Str := [Str.mk #[83, 81, 82, 84], Str.mk #[69, 88, 80], Str.mk #[76, 79, 71], Str.mk #[83, 73, 78], Str.mk #[67, 79, 83]]
noncomputable def sl2 : List Str := [Str.mk #[76, 79, 71, 49, 48], Str.mk #[84, 65, 78], Str.mk #[65, 83, 73, 78], Str.mk #[65, 67, 79, 83], Str.mk #[65, 84, 65, 78], Str.mk #[65, 84, 65, 78, 50], Str.mk #[83, 73, 78, 72], Str.mk #[67, 79, 83, 72], Str.mk #[84, 65, 78, 72]]
noncomputable def sl3 : List Str := [Str.mk #[76, 71, 69], Str.mk #[76, 71, 84], Str.mk #[76, 76, 69], Str.mk #[76, 76, 84]]
noncomputable def specC : List (Str × Str × Int) := specA ++ specB
noncomputable def specD : List (Str × Str × Int) := specC ++ sl1.flatMap spec1
noncomputable def specE : List (Str × Str × Int) := specD ++ sl2.flatMap spec2
noncomputable def specF : List (Str × Str × Int) := specE ++ [(Str.ofString "ALOG", Str.ofString "LOG", 1)]
noncomputable def specG : List (Str × Str × Int) := specF ++ [(Str.ofString "ALOG10", Str.ofString "LOG10", 1)]
theorem s0_x1 : Str.ofString "ALOG" ∉ specE.map (·.1) := by decide +kernel
theorem s0_x2 : Str.ofString "ALOG10" ∉ (specE ++ [(Str.ofString "ALOG", Str.ofString "LOG", (1 : Int))]).map (·.1) := by decide +kernel
theorem s0_l1 : specE.length ≤ 100 := by decide +kernel
theorem s0_l2 : (specE ++ [(Str.ofString "ALOG", Str.ofString "LOG", (1 : Int))]).length ≤ 100 := by decide +kernel
theorem spec_all : specG ++ sl3.flatMap spec3 = specTab := by decide +kernel
section
variable {done more : List Str} {r : Str}
theorem s1_x1 (h : done ++ r :: more = sl1) : Str.ofString "D" ++ r ∉ (specC ++ done.flatMap spec1).map (·.1) := by
  have := row_new (f := spec1) (base := specC) (pre := []) (all := sl1) (by decide +kernel) h rfl
  rwa [List.append_nil] at this
theorem s1_x2 (h : done ++ r :: more = sl1) : Str.ofString "C" ++ r ∉ (specC ++ done.flatMap spec1 ++ [(Str.ofString "D" ++ r, r, (2 : Int))]).map (·.1) := row_new (f := spec1) (base := specC) (pre := [(Str.ofString "D" ++ r, r, 2)]) (all := sl1) (by decide +kernel) h rfl
theorem s1_l1 (h : done ++ r :: more = sl1) : (specC ++ done.flatMap spec1).length ≤ 100 := by
  have := row_len (f := spec1) (base := specC) (pre := []) (all := sl1) (n := 100) (by decide +kernel) h rfl
  rwa [List.append_nil] at this
theorem s1_l2 (h : done ++ r :: more = sl1) : (specC ++ done.flatMap spec1 ++ [(Str.ofString "D" ++ r, r, (2 : Int))]).length ≤ 100 := row_len (f := spec1) (base := specC) (pre := [(Str.ofString "D" ++ r, r, 2)]) (all := sl1) (by decide +kernel) h rfl
theorem s2_x1 (h : done ++ r :: more = sl2) : Str.ofString "D" ++ r ∉ (specD ++ done.flatMap spec2).map (·.1) := by
  have := row_new (f := spec2) (base := specD) (pre := []) (all := sl2) (by decide +kernel) h rfl
  rwa [List.append_nil] at this
theorem s2_l1 (h : done ++ r :: more = sl2) : (specD ++ done.flatMap spec2).length ≤ 100 := by
  have := row_len (f := spec2) (base := specD) (pre := []) (all := sl2) (n := 100) (by decide +kernel) h rfl
  rwa [List.append_nil] at this
theorem s3_x1 (h : done ++ r :: more = sl3) : r ∉ (specG ++ done.flatMap spec3).map (·.1) := by
  have := row_new (f := spec3) (base := specG) (pre := []) (all := sl3) (by decide +kernel) h rfl
  rwa [List.append_nil] at this
theorem s3_l1 (h : done ++ r :: more = sl3) : (specG ++ done.flatMap spec3).length ≤ 100 := by
  have := row_len (f := spec3) (base := specG) (pre := []) (all := sl3) (n := 100) (by decide +kernel) h rfl
  rwa [List.append_nil] at this
theorem add_name {x y : Str} {t u : Tok} {prog : Program} {w : World} {A : Around} {E : Value → Shared → Prop} {s : Shared} {Q : Value → Shared → Prop} (hx : x.length ≤ 100) (hy : y.length ≤ 100) (h : ∀ t' tk, Q (.str (x ++ y) t') { s with toks := tk }) :
    wpAny (model prog w) A (binaryOp .Add (.str x t) (.str y u)) Q E s := PyProof.Rows.add_str h (by rw [sizeLine_eq]; omega)
theorem small_names {l : List Str} (hl : ∀ x ∈ l, x.length ≤ 100) (h : done ++ r :: more = l) : r.length ≤ 100 := hl r (h ▸ List.mem_append_right _ (.head _))
end
section
theorem kw_S5_3 : True := by
  k_with "m:eval Dict" =>
    refine of_hold ?_
  k_with "m:ItemsRest" =>
    refine of_hold ?_
  k_with "m:binaryOp Add str str" =>
    (k_here; refine' add_name (by decide +kernel) hsz ?_; k_whole; intro t' tk')
  k_with "m:exec For Name List cons nil" =>
    (k_here; (rename Fr _ _ _ _ => lF'); (with_unfolding_all refine' For_turns lF' ?_; k_whole))
  k_with "m:setItem ref str" =>
    (k_here; k_dflt (refine' set_row2 ?kwF ?kwN ?kwha ?kwS ?kwhp hnD ?kwx ?kwl ?_; (case kwF => k_asm); (case kwN => k_asm); (case kwS => assumption); (case kwha => (refine ltN ?_; omega)); (case kwhp => k_all); (case kwx => first | exact hx1 | exact hx2); (case kwl => first | exact hl1 | exact hl2)); intro od' tups' h' F' N' S'; (try k_sweep))
  k_with "m:setItem ref str" =>
    (k_here; k_dflt (refine' set_row0 ?kwF ?kwN ?kwha ?kwS hnD ?kwx ?kwl ?_; (case kwF => k_asm); (case kwN => k_asm); (case kwS => assumption); (case kwha => (refine ltN ?_; omega)); (case kwx => first | exact hx1 | exact hx2); (case kwl => first | exact hl1 | exact hl2)); intro od' tups' h' F' N' S'; (try k_sweep))
  trivial
theorem ct_specific {w : World} {p : Program} {loose : List Str} {mean : ExcName → Option Value} {mg mb : Str → Option Value} {news : List (Addr × Obj)}
  {dp un : Nat} {gd : Option (List Code)} {cn : Str} {cs : Scope} {a : Addr} {ccd : Value} {cl : List (Str × Addr)} {outer : List Env} {A₀ : Around} {base h₀ : Heap} {L : Addr} {m : Str → Option Value} {s : Shared} {Q E : Value → Shared → Prop} :
  Below A₀ base outer h₀ → Fr h₀ L s.heap m → (hd.heap_39 w.params).In h₀ → Top p loose mean mg mb h₀ → cs.kind = .function → dp < 350 → un < 100 → News h₀ L s.heap news →
  (∀ D od tups h' tk', (D == sysModules) = false → SAt Challenge.rw_no0227_01.row.prog w D specTab od tups → Fr h₀ L h' m → News h₀ L h' ((D, od) :: (tups ++ news)) → Q (.ref D) { s with heap := h', toks := tk' }) →
  wpAny (model Challenge.rw_no0227_01.row.prog w) (ktrTop dp un gd cn cs L a ccd cl outer) (call (.ref 68) []) Q E s := by
  k_fill
  intro B F X T hk hdp hun N hret
  refine wpAny_call ?_
  have g0 : nsIn (hd.heap_39 w.params) mainGlobals "INTEGER" = some (some (.int 0 234)) := rfl
  have g1 : nsIn (hd.heap_39 w.params) mainGlobals "REAL" = some (some (.int 1 236)) := rfl
  have g2 : nsIn (hd.heap_39 w.params) mainGlobals "DOUBLE" = some (some (.int 2 238)) := rfl
  have g3 : nsIn (hd.heap_39 w.params) mainGlobals "COMPLEX" = some (some (.int 3 240)) := rfl
  have g5 : nsIn (hd.heap_39 w.params) mainGlobals "CHARACTER" = some (some (.int 5 244)) := rfl
  k_dflt cell_enter
  rename_i F' N' B' X' T'
  k_with "pyIter ref" => (k_dflt (refine' iter_listTurns ?a ?b ?c ?d ?e ?f ?_; (case b => k_asm); (case c => k_asm); (case d => k_mem); (case a => exact rfl); (case e => exact rfl); (case f => exact rfl)); intro I0 hI0; have hI1 := hI0; k_lt hI0)
  k_steps
  unfold Hold
  have hbig := TopRead.nolimit (topRead_of T')
  with_reducible refine' dict_rows specA specB hbig F' N' ?a ?b ?c ?n ?r ?s ?hp ?hq ?_

  case a => kernel_rfl
  case b => kernel_rfl
  case c => kernel_rfl
  case n => decide +kernel
  case r => decide +kernel
  case s => decide +kernel
  case hp =>
    unfold specA
    repeat (first | exact po_nil | with_reducible refine po_cons (pair_ok X' T' (by assumption) rfl rfl (by decide)) ?_)
  case hq =>
    unfold specB
    repeat (first | exact po_end | with_reducible refine po_drop ?_ | with_reducible refine po_all (pair_ok X' T' (by assumption) rfl rfl (by decide)) ?_)
  intro D0 od tups h' tk' l1 hsys F' N' S'
  have hnD : ∀ p ∈ news, p.1 ≠ D0 := fun p hp => Nat.ne_of_lt (l1 p hp)
  replace S' : SAt _ _ _ specC _ _ := S'
  k_steps
  unfold Hold
  with_reducible refine' spec_rest (cur := fun y => if y = Str.ofString "found" then some (.ref D0) else none) spec1 specC sl1 S' ?hm ?hv ?turn ?fin
  case hm => with_unfolding_all rfl
  case hv => (repeat (first | exact StrsAre.nil | refine StrsAre.cons _ _ ?_))
  case turn =>
    intro s9 Q9 E9 done r more tk od tups or h t hall S F' o ho N'
    have hx1 := s1_x1 hall
    have hx2 := s1_x2 hall
    have hl1 := s1_l1 hall
    have hl2 := s1_l2 hall
    have hsz := small_names (l := sl1) (by decide +kernel) hall
    k_steps
    exact spec_back (f := spec1) (base := specC) hI1 ho (by assumption) (by assumption) (by assumption) (by simp [spec1, List.flatMap_append])
  case fin =>
    intro od tups or h t S' F' N'
    replace N' := news_of N' fun p hp => List.Mem.tail _ hp
    replace S' : SAt _ _ _ specD _ _ := S'
    clear hI0 hI1
    k_steps
    unfold Hold
    with_reducible refine' spec_rest spec2 specD sl2 S' ?hm ?hv ?turn ?fin
    case hm => exact rfl
    case hv => (repeat (first | exact StrsAre.nil | refine StrsAre.cons _ _ ?_))
    case turn =>
      intro s9 Q9 E9 done r more tk od tups or h t hall S F' o ho N'
      have hx1 := s2_x1 hall
      have hx2 := hx1
      have hl1 := s2_l1 hall
      have hl2 := hl1
      have hsz := small_names (l := sl2) (by decide +kernel) hall
      k_steps
      exact spec_back (f := spec2) (base := specD) hI1 ho (by assumption) (by assumption) (by assumption) (by simp [spec2, List.flatMap_append])
    case fin =>
      intro od tups or h t S' F' N'
      replace N' := news_of N' fun p hp => List.Mem.tail _ hp
      replace S' : SAt _ _ _ specE _ _ := S'
      clear hI0 hI1
      have hx1 := s0_x1
      have hx2 := s0_x2
      have hl1 := s0_l1
      have hl2 := s0_l2
      k_steps
      unfold Hold
      with_reducible refine' spec_rest spec3 specG sl3 ?hd ?hm ?hv ?turn ?fin
      case hd => assumption
      case hm => exact rfl
      case hv => (repeat (first | exact StrsAre.nil | refine StrsAre.cons _ _ ?_))
      case turn =>
        clear hx1 hx2 hl1 hl2
        intro s9 Q9 E9 done r more tk od tups or h t hall S F' o ho N'
        have hx1 := s3_x1 hall
        have hx2 := hx1
        have hl1 := s3_l1 hall
        have hl2 := hl1
        k_steps
        exact spec_back (f := spec3) (base := specG) hI1 ho (by assumption) (by assumption) (by assumption) (by simp [spec3, List.flatMap_append])
      case fin =>
        clear hx1 hx2 hl1 hl2
        intro od tups or h t S' F' N'
        rw [spec_all] at S'
        k_steps
        exact hret _ _ _ _ _ hsys S' (by assumption) (news_of (by assumption) fun p hp => List.Mem.tail _ hp)
end
theorem kw_S5_4 : True := by
  k_with_none
  trivial
end

section
open PySem PySem.W PyProof.Rows PySem.Calls
section
variable {prog : Program} {w : World} {A : Around} {E : Value → Shared → Prop} {s : Shared} {h₀ : Heap} {L : Addr} {m : Str → Option Value} {news : List (Addr × Obj)}
/-- a raise of what a call made, for an own class whose instances bear a dict -/
def Thrown (w : World) (E : Value → Shared → Prop) (v : Value) (s₁ : Shared) : Prop :=
  ∃ e t dd sl, v = .ref e ∧ (hd.heap_39 w.params).In s₁.heap ∧ ktsIn (hd.heap_39 w.params) 44 "BaseException" = true ∧ s₁.heap.get? e = some { cls := .ref 44, dict := some dd, data := .fields #[.ref t, .none, .none, .none, .bool false, .none], slots := sl } ∧ E (.ref e) s₁
theorem Raise_thrown {env : Env} {e : Expr} {pos : Pos} {Q : Flow → Shared → Prop} (hh : A.handled = none)
    (h : wpAny (model prog w) A (eval e env) (Thrown w E) E s) : wpAny (model prog w) A (exec (.Raise (some e) none pos) env) Q E s := by
  show wpAny _ A (do standAt pos; raiseStmt env (some (do let v ← eval e env; standAt pos; pure v)) none) Q E s
  refine wpAny_bind (wpAny_standAt ?_)
  unfold raiseStmt
  refine wpAny_bind (wpAny_bind (wpAny_mono h (fun v s₁ h₁ => wpAny_bind (wpAny_standAt (wpAny_pure ?_))) fun _ _ x => x))
  obtain ⟨e, t, dd, sl, rfl, X, hc, he, hE⟩ := h₁
  obtain ⟨nm, q', N, bs, bm, hdct, sn, sub, ab, col, dd', k0, k1, k2, k3, k5, newId, hC, hbase, hbT⟩ := kts_cls X hc
  have hcB : (Value.ref 44 :: bm).contains (.type "BaseException") = true := by rw [List.contains_cons, hbase, Bool.or_true]
  obtain ⟨hp, g, d, tk, os⟩ := s₁
  repeat (first | with_reducible refine wpAny_loadPart_at he ?_ | with_reducible refine wpAny_loadPart_at hC ?_ | (with_reducible refine wpAny_isSubtype_exc hC ?_; rw [hcB]) | wp_step)
  exact wpAny_raiseNew_none hh hE
end

section
variable {M : Model} {A : Around} {E : Value → Shared → Prop} {s' : Shared} {base g g₂ : Heap} {outer : List Env} {L a e t : Addr} {m : Str → Option Value} {name : Str} {scope : Scope} {cd : Value} {Q : Unit → Shared → Prop} {news : List (Addr × Obj)}
theorem leave_fault {x : Str} {tk : Tok} (K : Below A base outer g) (hx : FaultK g L s'.heap news e t x tk) (F : Fr g L s'.heap m) (N : News g L s'.heap news)
    (hQ : ∀ h', RaisedS base g outer e (.ref 44) t [.str x tk] news h' → RaisedK base outer e (.ref 44) t [.str x tk] news h' → g.UpToSlots h' → Q () { s' with heap := h' }) (hk : scope.kind = .function) :
    wpAny M (A.deeper (envOf name scope L a cd)) (leaving (envOf name scope L a cd) (.ref e)) Q E s' := by
  have K' := K.push (name := name) (a := a) (cd := cd) F hk
  let fs := (envOf name scope L a cd :: outer).filterMap (·.frame)
  have hin : ∀ env ∈ (envOf name scope L a cd :: outer), ∀ b, env.frame = some b → b ∈ e :: t :: fs := fun env he b hb => .tail _ (.tail _ (List.mem_filterMap.mpr ⟨env, he, hb⟩))
  have be : base.get? e = none := fresh_of_stays K.stays hx.newE
  have bt : base.get? t = none := fresh_of_stays K.stays hx.newT
  have st : base.StaysIn (hideAll s'.heap (e :: t :: fs)) := fun b o q => hideAll_get _ (K'.stays b o q) fun hm => by
    rcases List.mem_cons.mp hm with rfl | hm
    · rw [be] at q; cases q
    rcases List.mem_cons.mp hm with rfl | hm
    · rw [bt] at q; cases q
    rw [(K'.frames.mem hm).1] at q; cases q
  have sg : ∀ b o, g.get? b = some o → b ∉ outer.filterMap (·.frame) → (hideAll s'.heap (e :: t :: fs)).get? b = some o := fun b o q nm => hideAll_get _ (F.keep b o q) fun hm => by
    rcases List.mem_cons.mp hm with rfl | hm
    · rw [hx.newE] at q; cases q
    rcases List.mem_cons.mp hm with rfl | hm
    · rw [hx.newT] at q; cases q
    rcases kts_mem hm with z | z
    · rw [z, kts_self F] at q
      cases q
    · exact nm z
  have hl : ∀ q ∈ news, (hideAll s'.heap (e :: t :: fs)).get? q.1 = some q.2 ∧ g.get? q.1 = none ∧ base.get? q.1 = none := fun q hq => by
    refine ⟨hideAll_get _ (N q hq).1 fun hm => ?_, (N q hq).2.2, fresh_of_stays K.stays (N q hq).2.2⟩
    rcases List.mem_cons.mp hm with z | hm
    · exact (hx.ne q hq).1 z
    rcases List.mem_cons.mp hm with z | hm
    · exact (hx.ne q hq).2 z
    obtain ⟨env, he, hf⟩ := List.mem_filterMap.mp hm
    rcases List.mem_cons.mp he with rfl | he
    · exact (N q hq).2.1 (Option.some.inj hf).symm
    · obtain ⟨o, ho, _⟩ := (K.frames.mem (List.mem_filterMap.mpr ⟨env, he, hf⟩)).2
      rw [(N q hq).2.2] at ho; cases ho
  obtain ⟨dd, sl, he⟩ := hx.there
  refine wpAny_leaving_firstW (a0 := .ref t) K'.stack (funFrames_hide K'.frames hin) rfl he (fun b o hb => of_hideAll _ hb) (hideAll_none _ (.head _)) rfl rfl rfl fun h' hL => ?_
  obtain ⟨k1, ⟨_, _, k2⟩, k3, k4⟩ := hL
  have R : RaisedS base g outer e (.ref 44) t [.str x tk] news h' := ⟨⟨_, st, sg, hl, ⟨k1, hideAll_none _ (.head _), k2, k3⟩, hideAll_none _ (.tail _ (.head _))⟩, Heap.TupAt.of_slots ⟨_, _, hx.args, rfl, rfl⟩ k4⟩
  exact hQ h' R R.toK ((Heap.UpToSlots.of_keeps F.keep).trans k4)
end
end

section
open PySem PySem.W PyProof.Rows PySem.Calls PyProof.V
/-- what a dict of str keys says at one key -/
structure DictHas (od : Obj) (nm : Str) (r : Option Value) : Prop where
  exact_ : od.ExactDict
  rows : ∃ es ep, od.data = .dict es ep ∧ (es.all fun e => isExactStrKey e.key) = true ∧ (es.toList.find? fun e => e.key.isStr nm).map (·.val) = r
theorem has_some {δ : Type} {R : δ → Value → Prop} {od : Obj} {D : List (Str × δ)} {nm : Str} {d : δ} (H : DictRows R od D) (e : KTD.datumAt nm D = some d) : ∃ v, DictHas od nm (some v) ∧ R d v := by
  obtain ⟨hx, es, ep, hd, hr⟩ := H
  obtain ⟨v, hv, hR⟩ := hr.find_some e
  exact ⟨v, ⟨hx, es, ep, hd, by obtain ⟨l⟩ := es; simpa using hr.exact, hv⟩, hR⟩
theorem has_none {δ : Type} {R : δ → Value → Prop} {od : Obj} {D : List (Str × δ)} {nm : Str} (H : DictRows R od D) (e : KTD.datumAt nm D = none) : DictHas od nm none := by
  obtain ⟨hx, es, ep, hd, hr⟩ := H
  exact ⟨hx, es, ep, hd, by obtain ⟨l⟩ := es; simpa using hr.exact, hr.find_none e⟩
section
variable {prog : Program} {w : World} {A : Around} {E : Value → Shared → Prop} {s : Shared} {D : Addr} {od : Obj} {nm : Str} {tk : Tok} {r : Option Value}
theorem DictHas.typeIs (H : DictHas od nm r) (hD : s.heap.get? D = some od) : s.TypeIs (.ref D) "dict" := ⟨od, hD, H.exact_.1⟩
theorem DictHas.noDict {h : Heap} (H : DictHas od nm r) (hD : h.get? D = some od) : ∀ b, Value.ref D = .ref b → ∃ ob, h.get? b = some ob ∧ ob.dict = none :=
  fun b e => by injection e with e; subst e; exact ⟨od, hD, H.exact_.2.1⟩
theorem dictGet_has {Q : Option Value → Shared → Prop} (H : DictHas od nm r) (hD : s.heap.get? D = some od) (h : Q r { s with toks := s.toks + 1 }) :
    wpAny (model prog w) A (dictGet D (.str nm tk)) Q E s := by
  obtain ⟨_, es, ep, hd, hx, hr⟩ := H
  unfold dictGet
  try with_reducible refine wpAny_holding ?_
  refine wpAny_bind (wpAny_pyHash_str (wpAny_bind (KTD.kt_dictFind_strs (s := { s with toks := s.toks + 1 }) hD hd hx ?_)))
  have hf : findBy (fun k v => v.isStr k) es nm = (es.toList.find? fun e => e.key.isStr nm).map (·.val) := by
    obtain ⟨l⟩ := es
    simp [findBy]
  rw [← hr, ← hf, findBy_of_findIdx?] at h
  cases hi : es.findIdx? fun e => e.key.isStr nm with
  | none => rw [hi] at h; exact wpAny_pure h
  | some i => rw [hi] at h; exact wpAny_bind (wpAny_dictEntries (s := { s with toks := s.toks + 1 }) hD hd (wpAny_pure h))
theorem contains_has {Q : Bool → Shared → Prop} (H : DictHas od nm r) (hD : s.heap.get? D = some od) (hs : (D == sysModules) = false) (h : Q r.isSome { s with toks := s.toks + 1 }) :
    wpAny (model prog w) A (contains (.ref D) (.str nm tk)) Q E s := by
  unfold contains
  try with_reducible refine wpAny_holding ?_
  refine wpAny_bind (wpAny_specialOf (H.typeIs hD) slot_dict_contains.lookup ?_)
  show wpAny _ _ (if (some (Value.builtin "dict.__contains__") == some Value.none) = true then _ else _) _ E s
  rw [if_neg (by rw [beq_builtin_none]; exact Bool.false_ne_true)]
  refine wpAny_bind (wpAny_callSpecialUnlessNone?_slot (name := Str.ofString "__contains__") (H.typeIs hD) slot_dict_contains
    (wpAny_call_entry slot_dict_contains (H.typeIs hD) entry_dict_contains ?_ (args_dict_contains _ _)))
  show wpAny _ _ (dictGet D (.str nm tk) >>= _) _ _ s
  refine wpAny_bind (dictGet_has H hD ?_)
  cases r with
  | some v =>
    show wpAny _ _ (ret (.bool true)) _ _ _
    exact wpAny_pure ⟨_, rfl, wpAny_truthy_bool h⟩
  | none =>
    show wpAny _ _ (Builtin.Dict.pendingKey? D (.str nm tk) >>= _) _ _ _
    exact wpAny_bind (wpAny_pendingKey_other hs (wpAny_pure ⟨_, rfl, wpAny_truthy_bool h⟩))
theorem in_has {Q : Value → Shared → Prop} (H : DictHas od nm r) (hD : s.heap.get? D = some od) (hs : (D == sysModules) = false) (h : Q (.bool r.isSome) { s with toks := s.toks + 1 }) :
    wpAny (model prog w) A (compareOp .In (.str nm tk) (.ref D)) Q E s := by
  show wpAny _ _ (do return .bool (← contains (.ref D) (.str nm tk))) Q E s
  exact wpAny_bind (contains_has H hD hs (wpAny_pure h))
theorem item_has {value slice : Expr} {v : Value} {Q : Value → Shared → Prop} (H : DictHas od nm (some v)) (hD : s.heap.get? D = some od) (h : Q v { s with toks := s.toks + 1 })
    (hs : subscripted slice false (.ref D) (.str nm tk) = operate [.ref D, .str nm tk] (getItem (.ref D) (.str nm tk)) := by with_unfolding_all rfl) (hg : ∀ r, letTemporaryGo value (.ref D) r = pure () := by intro _; with_unfolding_all rfl) :
    wpAny (model prog w) A (subscriptTail value slice (.ref D) (.str nm tk)) Q E s := by
  refine subscriptTail_builtin (H.typeIs hD) slot_dict_getitem.lookup ?_ hs hg
  unfold getItem
  try with_reducible refine wpAny_holding ?_
  refine wpAny_bind (wpAny_sequenceKey (H.typeIs hD) (by decide) ?_)
  refine wpAny_bind (wpAny_callSpecial?_slot (name := Str.ofString "__getitem__") (H.typeIs hD) slot_dict_getitem
    (wpAny_call_entry slot_dict_getitem (H.typeIs hD) entry_dict_getitem ?_ (args_dict_getitem _ _)))
  show wpAny _ _ (dictGet D (.str nm tk) >>= _) _ _ s
  exact wpAny_bind (dictGet_has H hD (wpAny_pure ⟨v, rfl, wpAny_pure h⟩))
theorem getMethod_has {pl : Sem Bool} {Q : Value × List Value → Shared → Prop} (H : DictHas od nm r) (hD : s.heap.get? D = some od) (h : Q (.builtin "dict.get", [.ref D]) s) : wpAny (model prog w) A (getMethod (.ref D) "get" pl) Q E s :=
  getMethod_builtin (H.typeIs hD) PySem.F.plainAttrs_dict PySem.F.slot_dict_get PySem.F.type_dict_get (H.noDict hD) h
theorem meets_get_has : MeetsIn prog w (Builtin.«dict.get» ⟨[.ref D, .str nm tk], []⟩) (fun _ R s => DictHas od nm r ∧ s.heap.get? D = some od ∧ (D == sysModules) = false ∧ R (.ok (.ret (r.getD .none))) { s with toks := s.toks + 1 }) :=
  .of_wp fun A R s ⟨H, hD, hs, h1⟩ => by
    show wpAny _ _ (dictGet D (.str nm tk) >>= _) _ _ s
    refine wpAny_bind (dictGet_has H hD ?_)
    cases r with
    | some v => exact wpAny_pure ⟨v, rfl, h1⟩
    | none =>
      show wpAny _ _ (Builtin.Dict.missed D (.str nm tk) >>= _) _ _ _
      exact wpAny_bind (wpAny_missed_other hs (wpAny_pure ⟨.none, rfl, h1⟩))
theorem get_has {Q : Value → Shared → Prop} (H : DictHas od nm r) (hD : s.heap.get? D = some od) (hs : (D == sysModules) = false) (h : Q (r.getD .none) { s with toks := s.toks + 1 }) :
    wpAny (model prog w) A (call (.builtin "dict.get") [.ref D, .str nm tk]) Q E s :=
  call_meetsIn PySem.F.slot_dict_get (H.typeIs hD) PySem.F.entry_dict_get (PySem.F.args_dict_get_2 _ _) (meets_get_has (od := od) (r := r)) ⟨H, hD, hs, h⟩
end

section
variable {w : World} {A : Around} {E : Value → Shared → Prop} {s : Shared} {h₀ : Heap} {L : Addr} {m : Str → Option Value} {news : List (Addr × Obj)}
/-- the kinds that an address of genTab stands for -/
noncomputable def kindsAt (a : Addr) : List Int := if a = 51 then [0, 1, 2, 3] else if a = 52 then [0, 1, 2] else if a = 53 then [1, 2] else [1, 2, 3]
noncomputable def genOf (nm : Str) : Option (List Int) := (KTD.datumAt nm genTab).map kindsAt
noncomputable def specOf (nm : Str) : Option (Str × Int) := KTD.datumAt nm specTab
theorem gen_addr {nm : Str} {a : Addr} (h : KTD.datumAt nm genTab = some a) : a = 51 ∨ a = 52 ∨ a = 53 ∨ a = 54 := by
  have key : ∀ l : List (Str × Addr), (∀ p ∈ l, p.2 = 51 ∨ p.2 = 52 ∨ p.2 = 53 ∨ p.2 = 54) → KTD.datumAt nm l = some a → a = 51 ∨ a = 52 ∨ a = 53 ∨ a = 54 := by
    intro l
    induction l with
    | nil => intro _ e; cases e
    | cons p l ih =>
      intro hl e
      have e' : (if decide (nm = p.1) = true then some p.2 else KTD.datumAt nm l) = some a := e
      split at e'
      · cases e'; exact hl _ (.head _)
      · exact ih (fun q hq => hl q (.tail _ hq)) e'
  exact key genTab (by decide +kernel) h
theorem kinds_at {h : Heap} (X : (hd.heap_39 w.params).In h) {a : Addr} (ha : a = 51 ∨ a = 52 ∨ a = 53 ∨ a = 54) : KTD.Nums h a (kindsAt a) := by
  have one : ∀ (b : Addr) (vs : List Value) (ns : List Int), (hd.heap_39 w.params).lookup b = some { cls := .type "list", data := .seq vs.toArray } → IntsAre vs ns → KTD.Nums h b ns :=
    fun b vs ns e i => ⟨vs, ⟨_, X _ _ e, rfl, _, rfl⟩, i⟩
  rcases ha with rfl | rfl | rfl | rfl
  · exact one 51 _ _ rfl (IntsAre.cons _ _ (IntsAre.cons _ _ (IntsAre.cons _ _ (IntsAre.cons _ _ IntsAre.nil))))
  · exact one 52 _ _ rfl (IntsAre.cons _ _ (IntsAre.cons _ _ (IntsAre.cons _ _ IntsAre.nil)))
  · exact one 53 _ _ rfl (IntsAre.cons _ _ (IntsAre.cons _ _ IntsAre.nil))
  · exact one 54 _ _ rfl (IntsAre.cons _ _ (IntsAre.cons _ _ (IntsAre.cons _ _ IntsAre.nil)))

/-- what generic_kinds() says of one name, not yet looked at -/
structure GenAsk (g : Heap) (od : Obj) (nm : Str) : Prop where
  out : (genOf nm = none ∧ DictHas od nm none) ∨ ∃ a ks, genOf nm = some ks ∧ KTD.Nums g a ks ∧ DictHas od nm (some (.ref a))

theorem kgeneric1 {w : World} {p : Program} {loose : List Str} {mean : ExcName → Option Value} {mg mb : Str → Option Value} (nm : Str) {news : List (Addr × Obj)}
  {dp un : Nat} {gd : Option (List Code)} {cn : Str} {cs : Scope} {a : Addr} {ccd : Value} {cl : List (Str × Addr)} {outer : List Env} {A₀ : Around} {base h₀ : Heap} {L : Addr} {m : Str → Option Value} {s : Shared} {Q E : Value → Shared → Prop} (B : Below A₀ base outer h₀) (F : Fr h₀ L s.heap m) (X : (hd.heap_39 w.params).In h₀) (T : Top p loose mean mg mb h₀) (hk : cs.kind = .function) (hd : dp < 350) (hu : un < 100) (N : News h₀ L s.heap news)
    (h : ∀ D od h' tk', GenAsk h₀ od nm → (D == sysModules) = false → Fr h₀ L h' m → News h₀ L h' ((D, od) :: news) → Q (.ref D) { s with heap := h', toks := tk' }) :
    wpAny (model Challenge.rw_no0227_01.row.prog w) (ktrTop dp un gd cn cs L a ccd cl outer) (call (.ref 61) [] []) Q E s :=
  ct_generic B F X T hk hd hu N fun D od h' tk' hs H F' N' => by
    cases e : KTD.datumAt nm genTab with
    | none => exact h D od h' tk' ⟨.inl ⟨by rw [genOf, e]; rfl, has_none H e⟩⟩ hs F' N'
    | some a =>
      obtain ⟨v, hv, rfl⟩ := has_some H e
      exact h D od h' tk' ⟨.inr ⟨a, _, by rw [genOf, e]; rfl, kinds_at X (gen_addr e), hv⟩⟩ hs F' N'
theorem srows_zip {tups : List (Addr × Obj)} {ds : List (Str × Str × Int)} {kvs : List (Str × Value)} (h : SRows tups ds kvs) : ∀ p ∈ kvs.zip ds, p.1.1 = p.2.1 ∧ ∃ a t1 t2, p.1.2 = .ref a ∧ (a, pairObj p.2.2.1 t1 p.2.2.2 t2) ∈ tups := by
  induction h with
  | nil => exact fun _ h => nomatch h
  | cons hm _ ih =>
    intro p hp
    rcases List.mem_cons.mp hp with rfl | hp
    · exact ⟨rfl, _, _, _, rfl, hm⟩
    · exact ih p hp
theorem kspecific {w : World} {p : Program} {loose : List Str} {mean : ExcName → Option Value} {mg mb : Str → Option Value} (nm : Str) {news : List (Addr × Obj)}
  {dp un : Nat} {gd : Option (List Code)} {cn : Str} {cs : Scope} {a : Addr} {ccd : Value} {cl : List (Str × Addr)} {outer : List Env} {A₀ : Around} {base h₀ : Heap} {L : Addr} {m : Str → Option Value} {s : Shared} {Q E : Value → Shared → Prop} (B : Below A₀ base outer h₀) (F : Fr h₀ L s.heap m) (X : (hd.heap_39 w.params).In h₀) (T : Top p loose mean mg mb h₀) (hk : cs.kind = .function) (hd : dp < 350) (hu : un < 100) (N : News h₀ L s.heap news)
    (no : ∀ D od h' tk', specOf nm = none → DictHas od nm none → (D == sysModules) = false → Fr h₀ L h' m → News h₀ L h' ((D, od) :: news) → Q (.ref D) { s with heap := h', toks := tk' })
    (yes : ∀ D od a op t1 kd t2 h' tk', specOf nm = some (op, kd) → DictHas od nm (some (.ref a)) → (D == sysModules) = false → Fr h₀ L h' m → News h₀ L h' ((a, pairObj op t1 kd t2) :: (D, od) :: news) → Q (.ref D) { s with heap := h', toks := tk' }) :
    wpAny (model Challenge.rw_no0227_01.row.prog w) (ktrTop dp un gd cn cs L a ccd cl outer) (call (.ref 68) [] []) Q E s :=
  ct_specific B F X T hk hd hu N fun D od tups h' tk' hs S F' N' => by
    obtain ⟨kvs, hd', hr⟩ := S.out
    have H : DictRows (fun (p : Str × Int) v => ∃ a t1 t2, v = .ref a ∧ (a, pairObj p.1 t1 p.2 t2) ∈ tups) od specTab := dictOf_rows hd' hr.len (srows_zip hr)
    have drop : ∀ p ∈ (D, od) :: news, p ∈ (D, od) :: (tups ++ news) := fun p hp => by
      rcases List.mem_cons.mp hp with rfl | hp
      · exact .head _
      · exact .tail _ (List.mem_append_right _ hp)
    cases e : KTD.datumAt nm specTab with
    | none => exact no D od h' tk' e (has_none H e) hs F' (news_of N' drop)
    | some p =>
      obtain ⟨v, hv, a, t1, t2, rfl, ha⟩ := has_some H e
      refine yes D od a p.1 t1 p.2 t2 h' tk' e hv hs F' (news_of N' fun q hq => ?_)
      rcases List.mem_cons.mp hq with rfl | hq
      · exact .tail _ (List.mem_append_left _ ha)
      · exact drop q hq
theorem in_gen {prog : Program} {D : Addr} {od : Obj} {nm : Str} {tk : Tok} {g : Heap} {Q : Value → Shared → Prop} (G : GenAsk g od nm) (hD : s.heap.get? D = some od) (hs : (D == sysModules) = false)
    (no : genOf nm = none → DictHas od nm none → Q (.bool false) { s with toks := s.toks + 1 })
    (yes : ∀ a ks, genOf nm = some ks → KTD.Nums g a ks → DictHas od nm (some (.ref a)) → Q (.bool true) { s with toks := s.toks + 1 }) :
    wpAny (model prog w) A (compareOp .In (.str nm tk) (.ref D)) Q E s := by
  rcases G.out with ⟨a, b⟩ | ⟨a, ks, x, y, b⟩
  · exact in_has b hD hs (no a b)
  · exact in_has b hD hs (yes a ks x y b)
end
end

section
open PySem PySem.W PyProof.Rows PySem.Calls
theorem kw_C5_1 : True := by
  k_with_none
  k_with "m:exec Raise some none" =>
    (k_here; (with_reducible show wpAny _ _ (exec (Stmt.Raise (some (Expr.Call (Expr.Name ("CheckFault" : Str) _) _ _ _)) none _) _) _ _ _); refine Raise_thrown rfl ?_)
  k_with "m:call ref" =>
    (k_here; (with_reducible show wpAny _ _ (call (Value.ref 44) [Value.str _ _]) _ _ _); k_dflt (refine' ct_fault ?kwB ?kwF ?kwX ?kwT ?kwhk ?kwhd ?kwhu ?kwN ?_; (case kwB => k_asm); (case kwF => k_asm); (case kwX => k_asm); (case kwT => k_asm); (case kwN => k_asm); (case kwhk => first | exact rfl | assumption); (case kwhd => first | omega | ((try simp only [depth_under_make, depth_under_kw, depth_in1, depth_deeper, depth_caller]); (try dsimp only [ktrTop]); omega)); (case kwhu => first | omega | ((try simp only [units_in1, units_deeper, Around.mark_units, units_caller]); (try dsimp only [ktrTop]); omega)); k_whole); intro e' ta' h' tk' fa' F' N'; (obtain ⟨dd', sl', he'⟩ := fa'.there))
  k_with "m:Thrown" =>
    (refine ⟨_, _, _, _, rfl, by k_in, by kts_isx, by assumption, ?_⟩)
  k_with "m:leaving ref" =>
    (k_here; first
      | ((rename FaultK _ _ _ _ _ _ _ _ => fa9); refine' leave_fault ?kwK fa9 ?kwF ?kwN ?_ rfl; (case kwK => assumption); (case kwF => assumption); (case kwN => k_asm); k_whole; intro h' S' R' U'; (try dsimp only at S' R' U' ⊢))
      | (refine' leave_onS ?kwk1 ?kwk2 ?kwk3 ?kwk4 ?_; (case kwk3 => assumption); (case kwk2 => assumption); (case kwk1 => assumption); (case kwk4 => assumption); k_whole; intro h' S' R' U'; (try dsimp only at S' R' U' ⊢)))
  trivial

noncomputable def manyL : List Str := [Str.mk #[77, 65, 88], Str.mk #[77, 73, 78], Str.mk #[65, 77, 65, 88, 48], Str.mk #[77, 65, 88, 49], Str.mk #[65, 77, 73, 78, 48], Str.mk #[77, 73, 78, 49]]
noncomputable def twoL : List Str := [Str.mk #[77, 79, 68], Str.mk #[83, 73, 71, 78], Str.mk #[68, 73, 77], Str.mk #[68, 80, 82, 79, 68], Str.mk #[65, 84, 65, 78, 50], Str.mk #[73, 78, 68, 69, 88], Str.mk #[76, 71, 69], Str.mk #[76, 71, 84], Str.mk #[76, 76, 69], Str.mk #[76, 76, 84]]
noncomputable def countOk (op : Str) (n : Int) : Bool := if KTD.inWords op manyL = true then decide (2 ≤ n) else if KTD.inWords op twoL = true then decide (n = 2) else decide (n = 1) || ((op == Str.ofString "CMPLX") && decide (n = 2))
section
variable {op : Str} {n : Int}
theorem cc1 (h : KTD.inWords op manyL = true) (h2 : 2 ≤ n) : countOk op n = true := by simp [countOk, h, h2]
theorem cc1n (h : KTD.inWords op manyL = true) (h2 : ¬ 2 ≤ n) : countOk op n = false := by simp [countOk, h]; omega
theorem cc2 (h : KTD.inWords op manyL = false) (k : KTD.inWords op twoL = true) (h2 : n = 2) : countOk op n = true := by simp [countOk, h, k, h2]
theorem cc2n (h : KTD.inWords op manyL = false) (k : KTD.inWords op twoL = true) (h2 : n ≠ 2) : countOk op n = false := by simp [countOk, h, k, h2]
theorem cc3 (h : KTD.inWords op manyL = false) (k : KTD.inWords op twoL = false) (h2 : n = 1) : countOk op n = true := by simp [countOk, h, k, h2]
theorem cc4 (h : KTD.inWords op manyL = false) (k : KTD.inWords op twoL = false) (c : (op == Str.ofString "CMPLX") = true) (h2 : n = 2) : countOk op n = true := by simp only [countOk, h, k, c, h2]; decide
theorem cc4n (h : KTD.inWords op manyL = false) (k : KTD.inWords op twoL = false) (h1 : n ≠ 1) (h2 : n ≠ 2) : countOk op n = false := by simp [countOk, h, k, h1, h2]
theorem cc5n (h : KTD.inWords op manyL = false) (k : KTD.inWords op twoL = false) (h1 : n ≠ 1) (c : (op == Str.ofString "CMPLX") = false) : countOk op n = false := by simp only [countOk, h, k, c]; simp [h1]
end
/-- check_count, whatever it is asked -/
theorem ct_check {w : World} {p : Program} {loose : List Str} {mean : ExcName → Option Value} {mg mb : Str → Option Value} {news : List (Addr × Obj)} {op : Str} {t1 : Tok} {n : Int} {t2 : Tok}
  {dp un : Nat} {gd : Option (List Code)} {cn : Str} {cs : Scope} {a : Addr} {ccd : Value} {cl : List (Str × Addr)} {outer : List Env} {A₀ : Around} {base h₀ : Heap} {L : Addr} {m : Str → Option Value} {s : Shared}
    {Q E : Value → Shared → Prop} :
  Below A₀ base outer h₀ → Fr h₀ L s.heap m → (hd.heap_39 w.params).In h₀ → News h₀ L s.heap news → Top p loose mean mg mb h₀ → cs.kind = .function →
  dp < 350 → un < 100 →
  (∀ h' tk', countOk op n = true → 1 ≤ n → Fr h₀ L h' m → News h₀ L h' news → Q .none { s with heap := h', toks := tk' }) →
  (∀ g e ta x tk h' tk', countOk op n = false → Fr h₀ L g m → RaisedS base g (envX cn cs L a ccd cl :: outer) e (.ref 44) ta [.str x tk] news h' → g.UpToSlots h' → E (.ref e) { s with heap := h', toks := tk' }) →
  wpAny (model Challenge.rw_no0227_01.row.prog w) (ktrTop dp un gd cn cs L a ccd cl outer) (call (.ref 89) [.str op t1, .int n t2]) Q E s := by
  k_fill
  intro B F X N T hk hdp hun hret herr
  refine wpAny_call ?_
  k_dflt cell_enter
  k_steps
  all_goals first
    | (exfalso; omega)
    | exact hret _ _ (by first | exact cc1 (by assumption) (by assumption) | exact cc2 (by assumption) (by assumption) (by assumption) | exact cc3 (by assumption) (by assumption) (by assumption) | exact cc4 (by assumption) (by assumption) (by assumption) (by assumption)) (by omega) (by assumption) (by assumption)
    | exact herr _ _ _ _ _ _ _ (by first | exact cc1n (by assumption) (by assumption) | exact cc2n (by assumption) (by assumption) (by assumption) | exact cc4n (by assumption) (by assumption) (by assumption) (by assumption) | exact cc5n (by assumption) (by assumption) (by assumption) (by assumption)) (by assumption) (by assumption) (by assumption)
end

section
open PySem PySem.W PyProof.Rows PySem.Calls
/-- RESULTS -/
noncomputable def resTab : List (Str × Int) := [(Str.mk #[73, 78, 84], 0), (Str.mk #[82, 69, 65, 76], 1), (Str.mk #[68, 66, 76, 69], 2), (Str.mk #[67, 77, 80, 76, 88], 3), (Str.mk #[73, 67, 72, 65, 82], 0), (Str.mk #[67, 72, 65, 82], 5), (Str.mk #[78, 73, 78, 84], 0), (Str.mk #[68, 80, 82, 79, 68], 2), (Str.mk #[65, 77, 65, 88, 48], 1), (Str.mk #[77, 65, 88, 49], 0), (Str.mk #[65, 77, 73, 78, 48], 1), (Str.mk #[77, 73, 78, 49], 0), (Str.mk #[76, 69, 78], 0), (Str.mk #[73, 78, 68, 69, 88], 0), (Str.mk #[65, 73, 77, 65, 71], 1), (Str.mk #[76, 71, 69], 4), (Str.mk #[76, 71, 84], 4), (Str.mk #[76, 76, 69], 4), (Str.mk #[76, 76, 84], 4)]

noncomputable def wantedP (op : Str) (ks : List Int) : List Int := if (op == Str.ofString "CMPLX") = true ∧ ks.headD 0 ≠ 3 then ks.map (fun _ => 1) else ks
noncomputable def resultP (op : Str) (k0 : Int) : Int := if (op == Str.ofString "ABS") = true ∧ k0 = 3 then 1 else (KTD.datumAt op resTab).getD k0
section
variable {prog : Program} {w : World} {A : Around} {E : Value → Shared → Prop} {s : Shared} {D : Addr} {od : Obj} {nm : Str} {tk : Tok} {r : Option Value}
theorem meets_get2_has {dflt : Value} : MeetsIn prog w (Builtin.«dict.get» ⟨[.ref D, .str nm tk, dflt], []⟩) (fun _ R s => DictHas od nm r ∧ s.heap.get? D = some od ∧ (D == sysModules) = false ∧ R (.ok (.ret (r.getD dflt))) { s with toks := s.toks + 1 }) :=
  .of_wp fun A R s ⟨H, hD, hs, h1⟩ => by
    show wpAny _ _ (dictGet D (.str nm tk) >>= _) _ _ s
    refine wpAny_bind (dictGet_has H hD ?_)
    cases r with
    | some v => exact wpAny_pure ⟨v, rfl, h1⟩
    | none =>
      show wpAny _ _ (Builtin.Dict.missed D (.str nm tk) >>= _) _ _ _
      exact wpAny_bind (wpAny_missed_other hs (wpAny_pure ⟨dflt, rfl, h1⟩))
theorem get2_has {dflt : Value} {Q : Value → Shared → Prop} (H : DictHas od nm r) (hD : s.heap.get? D = some od) (hs : (D == sysModules) = false) (h : Q (r.getD dflt) { s with toks := s.toks + 1 }) :
    wpAny (model prog w) A (call (.builtin "dict.get") [.ref D, .str nm tk, dflt]) Q E s :=
  call_meetsIn PySem.F.slot_dict_get (H.typeIs hD) PySem.F.entry_dict_get (PySem.F.args_dict_get_3 _ _ _) (meets_get2_has (od := od) (r := r)) ⟨H, hD, hs, h⟩
theorem resRows {h : Heap} (X : (hd.heap_39 w.params).In h) : ∃ od, h.get? 47 = some od ∧ DictRows (fun (i : Int) v => ∃ t, v = .int i t) od resTab := by
  have k : ∃ od, (hd.heap_39 w.params).lookup 47 = some od ∧ DictRows (fun (i : Int) v => ∃ t, v = .int i t) od resTab := by
    refine ⟨_, rfl, ⟨rfl, rfl, rfl⟩, _, _, rfl, ?_⟩
    repeat (first | exact KTD.Rows.nil | refine KTD.Rows.cons rfl ⟨_, rfl⟩ ?_)
  obtain ⟨od, ho, hr⟩ := k
  exact ⟨od, X _ _ ho, hr⟩
theorem kresults {h₀ : Heap} {L : Addr} {m : Str → Option Value} {k0 : Int} {t0 : Tok} {Q : Value → Shared → Prop} (F : Fr h₀ L s.heap m) (X : (hd.heap_39 w.params).In h₀)
    (h : ∀ t, Q (.int ((KTD.datumAt nm resTab).getD k0) t) { s with toks := s.toks + 1 }) :
    wpAny (model prog w) A (call (.builtin "dict.get") [.ref 47, .str nm tk, .int k0 t0]) Q E s := by
  obtain ⟨od, ho, hr⟩ := resRows (X.keeps F.keep)
  cases e : KTD.datumAt nm resTab with
  | none =>
    refine get2_has (has_none hr e) ho (by decide) ?_
    have := h t0
    rw [e] at this
    exact this
  | some i =>
    obtain ⟨v, hv, t, rfl⟩ := has_some hr e
    refine get2_has hv ho (by decide) ?_
    have := h t
    rw [e] at this
    exact this
end

theorem kw_C7_1 : True := by
  k_with_none
  k_with "m:exec Raise some none" =>
    (k_here; (with_reducible show wpAny _ _ (exec (Stmt.Raise (some (Expr.Call (Expr.Name ("CheckFault" : Str) _) _ _ _)) none _) _) _ _ _); refine Raise_thrown rfl ?_)
  k_with "m:call ref" =>
    (k_here; (with_reducible show wpAny _ _ (call (Value.ref 44) [Value.str _ _]) _ _ _); k_dflt (refine' ct_fault ?kwB ?kwF ?kwX ?kwT ?kwhk ?kwhd ?kwhu ?kwN ?_; (case kwB => k_asm); (case kwF => k_asm); (case kwX => k_asm); (case kwT => k_asm); (case kwN => k_asm); (case kwhk => first | exact rfl | assumption); (case kwhd => first | omega | ((try simp only [depth_under_make, depth_under_kw, depth_in1, depth_deeper, depth_caller]); (try dsimp only [ktrTop]); omega)); (case kwhu => first | omega | ((try simp only [units_in1, units_deeper, Around.mark_units, units_caller]); (try dsimp only [ktrTop]); omega)); k_whole); intro e' ta' h' tk' fa' F' N'; (obtain ⟨dd', sl', he'⟩ := fa'.there))
  k_with "m:Thrown" =>
    (refine ⟨_, _, _, _, rfl, by k_in, by kts_isx, by assumption, ?_⟩)
  k_with "m:leaving ref" =>
    (k_here; first
      | ((rename FaultK _ _ _ _ _ _ _ _ => fa9); refine' leave_fault ?kwK fa9 ?kwF ?kwN ?_ rfl; (case kwK => assumption); (case kwF => assumption); (case kwN => k_asm); k_whole; intro h' S' R' U'; (try dsimp only at S' R' U' ⊢))
      | (refine' leave_onS ?kwk1 ?kwk2 ?kwk3 ?kwk4 ?_; (case kwk3 => assumption); (case kwk2 => assumption); (case kwk1 => assumption); (case kwk4 => assumption); k_whole; intro h' S' R' U'; (try dsimp only at S' R' U' ⊢)))
  k_with "m:call ref" =>
    (k_here; (with_reducible show wpAny _ _ (call (Value.ref 61) _) _ _ _); k_dflt (refine' kgeneric1 nm ?kwB ?kwF ?kwX ?kwT ?kwhk ?kwhd ?kwhu ?kwN ?_; (case kwB => k_asm); (case kwF => k_asm); (case kwX => k_asm); (case kwT => k_asm); (case kwN => k_asm); (case kwhk => first | exact rfl | assumption); (case kwhd => first | omega | ((try simp only [depth_under_make, depth_under_kw, depth_in1, depth_deeper, depth_caller]); (try dsimp only [ktrTop]); omega)); (case kwhu => first | omega | ((try simp only [units_in1, units_deeper, Around.mark_units, units_caller]); (try dsimp only [ktrTop]); omega)); all_goals intros))
  k_with "m:call ref" =>
    (k_here; (with_reducible show wpAny _ _ (call (Value.ref 68) _) _ _ _); k_dflt (refine' kspecific nm ?kwB ?kwF ?kwX ?kwT ?kwhk ?kwhd ?kwhu ?kwN ?_ ?_; (case kwB => k_asm); (case kwF => k_asm); (case kwX => k_asm); (case kwT => k_asm); (case kwN => k_asm); (case kwhk => first | exact rfl | assumption); (case kwhd => first | omega | ((try simp only [depth_under_make, depth_under_kw, depth_in1, depth_deeper, depth_caller]); (try dsimp only [ktrTop]); omega)); (case kwhu => first | omega | ((try simp only [units_in1, units_deeper, Around.mark_units, units_caller]); (try dsimp only [ktrTop]); omega)); all_goals intros))
  k_with "m:compareOp In str ref" =>
    (k_here; k_dflt (refine' in_gen ?kwG ?kwD ?kws ?_ ?_; (case kwD => exact News.get (by k_asm) (by k_mem)); (case kwG => assumption); (case kws => assumption); all_goals intros))
  k_with "m:compareOp In str ref" =>
    (k_here; k_dflt (refine' in_has ?kwH ?kwD ?kws ?_; (case kwD => exact News.get (by k_asm) (by k_mem)); (case kwH => assumption); (case kws => assumption); k_whole; (try dsimp only [Option.isSome_some, Option.isSome_none])))
  k_with "m:subscriptTail" =>
    (k_here; (with_reducible show wpAny _ _ (subscriptTail _ _ (Value.ref _) (Value.str _ _)) _ _ _); k_dflt (refine' item_has ?kwH ?kwD ?_; (case kwD => exact News.get (by k_asm) (by k_mem)); (case kwH => assumption); k_whole))
  k_with "m:getMethod ref" =>
    (k_here; (with_reducible show wpAny _ _ (getMethod (Value.ref _) (Str.ofString "get") _) _ _ _); k_dflt (refine' getMethod_has ?kwH ?kwD ?_; (case kwD => exact News.get (by k_asm) (by k_mem)); (case kwH => assumption); k_whole))
  k_with "m:call builtin:dict.get" =>
    (k_here; (with_reducible show wpAny _ _ (call (Value.builtin "dict.get") [Value.ref _, Value.str _ _]) _ _ _); k_dflt (refine' get_has ?kwH ?kwD ?kws ?_; (case kwD => exact News.get (by k_asm) (by k_mem)); (case kwH => assumption); (case kws => assumption); k_whole; (try dsimp only [Option.getD_some, Option.getD_none])))
  trivial

theorem kw_C7_2 : True := by
  k_with "m:call builtin:dict.get" =>
    (k_here; (with_reducible show wpAny _ _ (call (Value.builtin "dict.get") [Value.ref 47, Value.str _ _, Value.int _ _]) _ _ _); k_dflt (refine' kresults ?kwF ?kwX ?_; (case kwF => k_asm); (case kwX => k_asm); k_whole); intro t9)
  k_with "m:eval ListComp" =>
    (k_here; (try k_iter_made); (with_reducible apply ListComp_DCn); (case hh => with_unfolding_all rfl); (case hclos => with_unfolding_all rfl); (case hcell => decide); (case hkind => with_unfolding_all rfl); (case hnames => decide); (case hx => with_unfolding_all rfl); (case hs => intro _; with_unfolding_all rfl); (case' h => with_reducible refine wpAny_compPack ?_))
  trivial
theorem getD0 (ks : List Int) : ks.getD (Int.toNat 0) 0 = ks.headD 0 := by cases ks <;> rfl
theorem res1 {op : Str} {ks : List Int} (a : (op == Str.ofString "ABS") = true) (b : ks.getD (Int.toNat 0) 0 = 3) : resultP op (ks.headD 0) = 1 := by rw [getD0] at b; unfold resultP; rw [if_pos ⟨a, b⟩]
theorem res2 {op : Str} {ks : List Int} (a : (op == Str.ofString "ABS") = true) (b : ks.getD (Int.toNat 0) 0 ≠ 3) : resultP op (ks.headD 0) = (KTD.datumAt op resTab).getD (ks.getD (Int.toNat 0) 0) := by rw [getD0] at b ⊢; unfold resultP; rw [if_neg (fun h => b h.2)]
theorem res3 {op : Str} {ks : List Int} (a : (op == Str.ofString "ABS") = false) : resultP op (ks.headD 0) = (KTD.datumAt op resTab).getD (ks.getD (Int.toNat 0) 0) := by rw [getD0]; unfold resultP; rw [if_neg (fun h => by rw [a] at h; cases h.1)]
theorem wan1 {op : Str} {ks : List Int} (a : (op == Str.ofString "CMPLX") = true) (b : ks.getD (Int.toNat 0) 0 ≠ 3) : wantedP op ks = ks.map (fun _ => 1) := by rw [getD0] at b; unfold wantedP; rw [if_pos ⟨a, b⟩]
theorem wan2 {op : Str} {ks : List Int} (a : (op == Str.ofString "CMPLX") = true) (b : ks.getD (Int.toNat 0) 0 = 3) : wantedP op ks = ks := by rw [getD0] at b; unfold wantedP; rw [if_neg (fun h => h.2 b)]
theorem wan3 {op : Str} {ks : List Int} (a : (op == Str.ofString "CMPLX") = false) : wantedP op ks = ks := by unfold wantedP; rw [if_neg (fun h => by rw [a] at h; cases h.1)]

theorem ct_result {w : World} {p : Program} {loose : List Str} {mean : ExcName → Option Value} {mg mb : Str → Option Value} {op : Str} {to : Tok} {ks : List Int} {vs : List Value} {c : Nat} {kl : Addr} {news : List (Addr × Obj)}
  {dp un : Nat} {gd : Option (List Code)} {cn : Str} {cs : Scope} {a : Addr} {ccd : Value} {cl : List (Str × Addr)} {outer : List Env} {A₀ : Around} {base h₀ : Heap} {L : Addr} {m : Str → Option Value} {s : Shared} {Q E : Value → Shared → Prop} :
  Below A₀ base outer h₀ → Fr h₀ L s.heap m → (hd.heap_39 w.params).In h₀ → Top p loose mean mg mb h₀ → cs.kind = .function → dp < 350 → un < 100 → News h₀ L s.heap ((kl, listOf vs.toArray c) :: news) → IntsAre vs ks → 1 ≤ (ks.length : Int) → (ks.length : Int) ≤ 4 →
  (∀ t h' tk', Fr h₀ L h' m → News h₀ L h' ((kl, listOf vs.toArray c) :: news) → Q (.int (resultP op (ks.headD 0)) t) { s with heap := h', toks := tk' }) →
  wpAny (model Challenge.rw_no0227_01.row.prog w) (ktrTop dp un gd cn cs L a ccd cl outer) (call (.ref 101) [.str op to, .ref kl]) Q E s := by
  k_fill
  intro B F X T hk hdp hun N hi h1 h4 hret
  refine wpAny_call ?_
  k_dflt cell_enter
  k_steps
  all_goals first
    | (have q := res1 (ks := ks) (op := op) (by assumption) (by assumption); rw [q] at hret; exact hret _ _ _ (by assumption) (by assumption))
    | (have q := res2 (ks := ks) (op := op) (by assumption) (by assumption); rw [q] at hret; exact hret _ _ _ (by assumption) (by assumption))
    | (have q := res3 (ks := ks) (op := op) (by assumption); rw [q] at hret; exact hret _ _ _ (by assumption) (by assumption))
/-- a list object, whatever its other parts -/
def ListObj (o : Obj) (vs : List Value) : Prop := o.cls = .type "list" ∧ ∃ n, o.data = .seq vs.toArray n
theorem ct_wanted {w : World} {p : Program} {loose : List Str} {mean : ExcName → Option Value} {mg mb : Str → Option Value} {op : Str} {to : Tok} {ks : List Int} {vs : List Value} {c : Nat} {kl : Addr} {news : List (Addr × Obj)}
  {dp un : Nat} {gd : Option (List Code)} {cn : Str} {cs : Scope} {a : Addr} {ccd : Value} {cl : List (Str × Addr)} {outer : List Env} {A₀ : Around} {base h₀ : Heap} {L : Addr} {m : Str → Option Value} {s : Shared} {Q E : Value → Shared → Prop} :
  Below A₀ base outer h₀ → Fr h₀ L s.heap m → (hd.heap_39 w.params).In h₀ → Top p loose mean mg mb h₀ → cs.kind = .function → dp < 350 → un < 100 → News h₀ L s.heap ((kl, listOf vs.toArray c) :: news) → IntsAre vs ks → 1 ≤ (ks.length : Int) → (ks.length : Int) ≤ 4 →
  (∀ wl o ws h' tk', ListObj o ws → IntsAre ws (wantedP op ks) → Fr h₀ L h' m → News h₀ L h' ((wl, o) :: (kl, listOf vs.toArray c) :: news) → Q (.ref wl) { s with heap := h', toks := tk' }) →
  wpAny (model Challenge.rw_no0227_01.row.prog w) (ktrTop dp un gd cn cs L a ccd cl outer) (call (.ref 94) [.str op to, .ref kl]) Q E s := by
  k_fill
  intro B F X T hk hdp hun N hi h1 h4 hret
  refine wpAny_call ?_
  k_dflt cell_enter
  k_steps
  all_goals first
    | (have q := wan2 (ks := ks) (op := op) (by assumption) (by assumption); rw [q] at hret; exact hret _ _ vs _ _ ⟨rfl, _, rfl⟩ (by assumption) (by assumption) (by assumption))
    | (have q := wan3 (ks := ks) (op := op) (by assumption); rw [q] at hret; exact hret _ _ vs _ _ ⟨rfl, _, rfl⟩ (by assumption) (by assumption) (by assumption))
    | (have q := wan1 (ks := ks) (op := op) (by assumption) (by assumption); rw [q] at hret; exact hret _ _ _ _ _ ⟨rfl, _, rfl⟩ (CarriedAll.intsOf (by assumption)) (by assumption) (by assumption))
end

section
open PySem PySem.W PyProof.Rows PySem.Calls
noncomputable def opLet (nm : Str) : Option (Str × List Int) := match specOf nm with
  | some p => some (p.1, [p.2])
  | none => match genOf nm with
    | some l => some (nm, l)
    | none => none
/-- choose, as a plain function -/
noncomputable def chooseP (nm : Str) (ks : List Int) : Option (Str × List Int × Int) := match opLet nm with
  | none => none
  | some p => if countOk p.1 ks.length = true ∧ (∀ v ∈ ks, v = ks.headD 0 ∧ v ∈ p.2) ∧ ¬ ((p.1 == Str.ofString "CMPLX") = true ∧ ks.headD 0 = 3 ∧ (ks.length : Int) = 2) then some (p.1, wantedP p.1 ks, resultP p.1 (ks.headD 0)) else none
noncomputable def letOf (nm : Str) : List Int := match opLet nm with
  | some p => p.2
  | none => []
def GoodPre (ks : List Int) (nm : Str) (pre : List Int) : Prop := ∀ v ∈ pre, v = ks.headD 0 ∧ v ∈ letOf nm
section
variable {nm op : Str} {kd kN : Int} {ks l pre post : List Int}
theorem opLet_spec (sp : specOf nm = some (op, kd)) : opLet nm = some (op, [kd]) := by unfold opLet; rw [sp]
theorem opLet_gen (sp : specOf nm = none) (g : genOf nm = some l) : opLet nm = some (nm, l) := by unfold opLet; rw [sp, g]
theorem good_nil : GoodPre ks nm [] := fun _ h => nomatch h
theorem any_in {l : List Int} {x : Int} (h : (l.any fun y => y == x) = true) : x ∈ l := by
  obtain ⟨y, hy, e⟩ := List.any_eq_true.mp h
  exact beq_iff_eq.mp e ▸ hy
theorem any_not {l : List Int} {x : Int} (h : (l.any fun y => y == x) = false) : x ∉ l := fun hx => by
  have k : (l.any fun y => y == x) = true := List.any_eq_true.mpr ⟨x, hx, beq_self_eq_true x⟩
  rw [k] at h; cases h
theorem nums_in {l : List Int} {x : Int} (h : KTD.inNums x l = true) : x ∈ l := any_in (by rw [KTD.any_nums]; exact h)
theorem nums_not {l : List Int} {x : Int} (h : KTD.inNums x l = false) : x ∉ l := any_not (by rw [KTD.any_nums]; exact h)
theorem good_step (h : GoodPre ks nm pre) (e : kN = ks.getD (Int.toNat 0) 0) (a : kN ∈ letOf nm) : GoodPre ks nm (pre ++ [kN]) := fun v hv => by
  rcases List.mem_append.mp hv with hv | hv
  · exact h v hv
  · rw [List.mem_singleton.mp hv]; exact ⟨e.trans (getD0 ks), a⟩
theorem let_spec (sp : specOf nm = some (op, kd)) : letOf nm = [kd] := by unfold letOf; rw [opLet_spec sp]
theorem let_gen (sp : specOf nm = none) (g : genOf nm = some l) : letOf nm = l := by unfold letOf; rw [opLet_gen sp g]
theorem good_spec (h : GoodPre ks nm pre) (sp : specOf nm = some (op, kd)) (e : kN = ks.getD (Int.toNat 0) 0) (a : ([kd].any fun x => x == kN) = true) : GoodPre ks nm (pre ++ [kN]) := good_step h e (by rw [let_spec sp]; exact any_in a)
theorem good_gen (h : GoodPre ks nm pre) (sp : specOf nm = none) (g : genOf nm = some l) (e : kN = ks.getD (Int.toNat 0) 0) (a : KTD.inNums kN l = true) : GoodPre ks nm (pre ++ [kN]) := good_step h e (by rw [let_gen sp g]; exact nums_in a)
theorem no_name (g : genOf nm = none) (sp : specOf nm = none) : chooseP nm ks = none := by unfold chooseP opLet; rw [sp, g]
theorem no_of {p : Str × List Int} (o : opLet nm = some p) (h : ¬ (countOk p.1 ks.length = true ∧ (∀ v ∈ ks, v = ks.headD 0 ∧ v ∈ p.2) ∧ ¬ ((p.1 == Str.ofString "CMPLX") = true ∧ ks.headD 0 = 3 ∧ (ks.length : Int) = 2))) : chooseP nm ks = none := by unfold chooseP; rw [o]; exact if_neg h
theorem no_count {p : Str × List Int} (o : opLet nm = some p) (h : countOk p.1 ks.length = false) : chooseP nm ks = none := no_of o fun q => by rw [h] at q; cases q.1
theorem no_kind {p : Str × List Int} (o : opLet nm = some p) (hm : kN ∈ ks) (h : kN ≠ ks.getD (Int.toNat 0) 0) : chooseP nm ks = none := no_of o fun q => h ((q.2.1 kN hm).1.trans (getD0 ks).symm)
theorem no_let {p : Str × List Int} (o : opLet nm = some p) (hm : kN ∈ ks) (h : kN ∉ p.2) : chooseP nm ks = none := no_of o fun q => h (q.2.1 kN hm).2
theorem no_cmplx {p : Str × List Int} (o : opLet nm = some p) (a : (p.1 == Str.ofString "CMPLX") = true) (b : ks.getD (Int.toNat 0) 0 = 3) (c : (ks.length : Int) = 2) : chooseP nm ks = none := no_of o fun q => q.2.2 ⟨a, (getD0 ks).symm.trans b, c⟩
theorem yes_of {p : Str × List Int} (o : opLet nm = some p) (a : countOk p.1 ks.length = true) (g : GoodPre ks nm ks) (c : ¬ ((p.1 == Str.ofString "CMPLX") = true ∧ ks.getD (Int.toNat 0) 0 = 3 ∧ (ks.length : Int) = 2)) : chooseP nm ks = some (p.1, wantedP p.1 ks, resultP p.1 (ks.headD 0)) := by
  unfold chooseP; rw [o]; refine if_pos ⟨a, fun v hv => ?_, by rw [← getD0]; exact c⟩
  have := g v hv
  rw [show letOf nm = p.2 by unfold letOf; rw [o]] at this
  exact this
end
theorem news_pick3 {h₀ h : Heap} {L : Addr} {p1 p2 p3 : Addr × Obj} {rest big : List (Addr × Obj)} (N : News h₀ L h big) (a1 : p1 ∈ big) (a2 : p2 ∈ big) (a3 : p3 ∈ big) (ar : ∀ p ∈ rest, p ∈ big) : News h₀ L h (p1 :: p2 :: p3 :: rest) := fun p hp => by
  rcases List.mem_cons.mp hp with rfl | hp
  · exact N _ a1
  · rcases List.mem_cons.mp hp with rfl | hp
    · exact N _ a2
    · rcases List.mem_cons.mp hp with rfl | hp
      · exact N _ a3
      · exact N _ (ar _ hp)

theorem kw_C8_1 : True := by
  k_with_none
  k_with "m:exec Raise some none" =>
    (k_here; (with_reducible show wpAny _ _ (exec (Stmt.Raise (some (Expr.Call (Expr.Name ("CheckFault" : Str) _) _ _ _)) none _) _) _ _ _); refine Raise_thrown rfl ?_)
  k_with "m:call ref" =>
    (k_here; (with_reducible show wpAny _ _ (call (Value.ref 44) [Value.str _ _]) _ _ _); k_dflt (refine' ct_fault ?kwB ?kwF ?kwX ?kwT ?kwhk ?kwhd ?kwhu ?kwN ?_; (case kwB => k_asm); (case kwF => k_asm); (case kwX => k_asm); (case kwT => k_asm); (case kwN => k_asm); (case kwhk => first | exact rfl | assumption); (case kwhd => first | omega | ((try simp only [depth_under_make, depth_under_kw, depth_in1, depth_deeper, depth_caller]); (try dsimp only [ktrTop]); omega)); (case kwhu => first | omega | ((try simp only [units_in1, units_deeper, Around.mark_units, units_caller]); (try dsimp only [ktrTop]); omega)); k_whole); intro e' ta' h' tk' fa' F' N'; (obtain ⟨dd', sl', he'⟩ := fa'.there))
  k_with "m:Thrown" =>
    (refine ⟨_, _, _, _, rfl, by k_in, by kts_isx, by assumption, ?_⟩)
  k_with "m:leaving ref" =>
    (k_here; first
      | ((rename FaultK _ _ _ _ _ _ _ _ => fa9); refine' leave_fault ?kwK fa9 ?kwF ?kwN ?_ rfl; (case kwK => assumption); (case kwF => assumption); (case kwN => k_asm); k_whole; intro h' S' R' U'; (try dsimp only at S' R' U' ⊢))
      | (refine' leave_onS ?kwk1 ?kwk2 ?kwk3 ?kwk4 ?_; (case kwk3 => assumption); (case kwk2 => assumption); (case kwk1 => assumption); (case kwk4 => assumption); k_whole; intro h' S' R' U'; (try dsimp only at S' R' U' ⊢)))
  k_with "m:call ref" =>
    (k_here; (with_reducible show wpAny _ _ (call (Value.ref 61) _) _ _ _); k_dflt (refine' kgeneric1 nm ?kwB ?kwF ?kwX ?kwT ?kwhk ?kwhd ?kwhu ?kwN ?_; (case kwB => k_asm); (case kwF => k_asm); (case kwX => k_asm); (case kwT => k_asm); (case kwN => k_asm); (case kwhk => first | exact rfl | assumption); (case kwhd => first | omega | ((try simp only [depth_under_make, depth_under_kw, depth_in1, depth_deeper, depth_caller]); (try dsimp only [ktrTop]); omega)); (case kwhu => first | omega | ((try simp only [units_in1, units_deeper, Around.mark_units, units_caller]); (try dsimp only [ktrTop]); omega)); all_goals intros))
  k_with "m:call ref" =>
    (k_here; (with_reducible show wpAny _ _ (call (Value.ref 68) _) _ _ _); k_dflt (refine' kspecific nm ?kwB ?kwF ?kwX ?kwT ?kwhk ?kwhd ?kwhu ?kwN ?_ ?_; (case kwB => k_asm); (case kwF => k_asm); (case kwX => k_asm); (case kwT => k_asm); (case kwN => k_asm); (case kwhk => first | exact rfl | assumption); (case kwhd => first | omega | ((try simp only [depth_under_make, depth_under_kw, depth_in1, depth_deeper, depth_caller]); (try dsimp only [ktrTop]); omega)); (case kwhu => first | omega | ((try simp only [units_in1, units_deeper, Around.mark_units, units_caller]); (try dsimp only [ktrTop]); omega)); all_goals intros))
  k_with "m:compareOp In str ref" =>
    (k_here; k_dflt (refine' in_gen ?kwG ?kwD ?kws ?_ ?_; (case kwD => exact News.get (by k_asm) (by k_mem)); (case kwG => assumption); (case kws => assumption); all_goals intros))
  k_with "m:compareOp In str ref" =>
    (k_here; k_dflt (refine' in_has ?kwH ?kwD ?kws ?_; (case kwD => exact News.get (by k_asm) (by k_mem)); (case kwH => assumption); (case kws => assumption); k_whole; (try dsimp only [Option.isSome_some, Option.isSome_none])))
  k_with "m:subscriptTail" =>
    (k_here; (with_reducible show wpAny _ _ (subscriptTail _ _ (Value.ref _) (Value.str _ _)) _ _ _); k_dflt (refine' item_has ?kwH ?kwD ?_; (case kwD => exact News.get (by k_asm) (by k_mem)); (case kwH => assumption); k_whole))
  k_with "m:getMethod ref" =>
    (k_here; (with_reducible show wpAny _ _ (getMethod (Value.ref _) (Str.ofString "get") _) _ _ _); k_dflt (refine' getMethod_has ?kwH ?kwD ?_; (case kwD => exact News.get (by k_asm) (by k_mem)); (case kwH => assumption); k_whole))
  k_with "m:call builtin:dict.get" =>
    (k_here; (with_reducible show wpAny _ _ (call (Value.builtin "dict.get") [Value.ref _, Value.str _ _]) _ _ _); k_dflt (refine' get_has ?kwH ?kwD ?kws ?_; (case kwD => exact News.get (by k_asm) (by k_mem)); (case kwH => assumption); (case kws => assumption); k_whole; (try dsimp only [Option.getD_some, Option.getD_none])))
  trivial

theorem kw_C8_2 : True := by
  k_with "m:call ref" =>
    (k_here; (with_reducible show wpAny _ _ (call (Value.ref 89) _) _ _ _); k_dflt (refine' ct_check ?kwB ?kwF ?kwX ?kwN ?kwT ?kwhk ?kwhd ?kwhu ?_ ?_; (case kwB => k_asm); (case kwF => k_asm); (case kwX => k_asm); (case kwN => k_asm); (case kwT => k_asm); (case kwhk => first | exact rfl | assumption); (case kwhd => first | omega | ((try simp only [depth_under_make, depth_under_kw, depth_in1, depth_deeper, depth_caller]); (try dsimp only [ktrTop]); omega)); (case kwhu => first | omega | ((try simp only [units_in1, units_deeper, Around.mark_units, units_caller]); (try dsimp only [ktrTop]); omega)); all_goals intros))
  trivial

theorem news_first {h₀ h : Heap} {L : Addr} {p : Addr × Obj} {big : List (Addr × Obj)} (N : News h₀ L h big) (a : p ∈ big) : News h₀ L h (p :: big) := fun q hq => by
  rcases List.mem_cons.mp hq with rfl | hq
  · exact N _ a
  · exact N _ hq
theorem raised_sub {base G h : Heap} {l : List Env} {e t : Addr} {cls : Value} {vs : List Value} {small big : List (Addr × Obj)} (R : RaisedS base G l e cls t vs big h) (hs : ∀ p ∈ small, p ∈ big) : RaisedS base G l e cls t vs small h := by
  obtain ⟨⟨B, h1, h2, h3, h4, h5⟩, h6⟩ := R
  exact ⟨⟨B, h1, h2, fun q hq => h3 q (hs q hq), h4, h5⟩, h6⟩
abbrev tripleObj (op : Str) (t1 : Tok) (wl : Addr) (r : Int) (t2 : Tok) : Obj := { cls := .type "tuple", data := .seq #[.str op t1, .ref wl, .int r t2] }

theorem kw_C8_3 : True := by
  k_with "m:call ref" =>
    (k_here; (with_reducible show wpAny _ _ (call (Value.ref 94) _) _ _ _); k_dflt (refine' ct_wanted ?kwB ?kwF ?kwX ?kwT ?kwhk ?kwhd ?kwhu ?kwN ?kwhi ?kwh1 ?kwh4 ?_; (case kwB => k_asm); (case kwF => k_asm); (case kwX => k_asm); (case kwT => k_asm); (case kwhk => first | exact rfl | assumption); (case kwhd => first | omega | ((try simp only [depth_under_make, depth_under_kw, depth_in1, depth_deeper, depth_caller]); (try dsimp only [ktrTop]); omega)); (case kwhu => first | omega | ((try simp only [units_in1, units_deeper, Around.mark_units, units_caller]); (try dsimp only [ktrTop]); omega)); (case kwN => refine news_first (by k_asm) (by k_mem)); (case kwhi => assumption); (case kwh1 => assumption); (case kwh4 => assumption); all_goals intros))
  trivial

theorem kw_C8_4 : True := by
  k_with "m:call ref" =>
    (k_here; (with_reducible show wpAny _ _ (call (Value.ref 101) _) _ _ _); k_dflt (refine' ct_result ?kwB ?kwF ?kwX ?kwT ?kwhk ?kwhd ?kwhu ?kwN ?kwhi ?kwh1 ?kwh4 ?_; (case kwB => k_asm); (case kwF => k_asm); (case kwX => k_asm); (case kwT => k_asm); (case kwhk => first | exact rfl | assumption); (case kwhd => first | omega | ((try simp only [depth_under_make, depth_under_kw, depth_in1, depth_deeper, depth_caller]); (try dsimp only [ktrTop]); omega)); (case kwhu => first | omega | ((try simp only [units_in1, units_deeper, Around.mark_units, units_caller]); (try dsimp only [ktrTop]); omega)); (case kwN => refine news_first (by k_asm) (by k_mem)); (case kwhi => assumption); (case kwh1 => assumption); (case kwh4 => assumption); all_goals intros))
  trivial

def CutPost (I : Shared → Prop) (Q : Flow → Shared → Prop) (f : Flow) (s : Shared) : Prop := match f with
  | .next => I s
  | f => Q f s

theorem execs_cut {M : Model} {A : Around} {E : Value → Shared → Prop} {env : Env} {rest : List Stmt} {I : Shared → Prop} {Q : Flow → Shared → Prop} {s : Shared} (l : List Stmt)
    (h : wpAny M A (execs l env) (CutPost I Q) E s) (h2 : ∀ s', I s' → wpAny M A (execs rest env) Q E s') : wpAny M A (execs (l ++ rest) env) Q E s := by
  intro Γ p hΓ
  have := h Γ p hΓ
  clear h
  induction l generalizing p s with
  | nil => exact h2 _ this Γ p hΓ
  | cons st l ih =>
    show Sem.wp _ _ _ _ _ _ _
    rw [execs_cons, Sem.wp_bind'] at this
    rw [List.cons_append, execs_cons, Sem.wp_bind']
    refine Sem.wp_mono M Γ _ (fun f p' s' h' => ?_) (fun _ _ _ h' => h') _ _ this
    cases f with
    | next => exact ih p' h'
    | _ => exact h'

/-- what is left behind the last test of choose -/
def IfC (s : Shared) (h₀ : Heap) (L : Addr) (m : Str → Option Value) (base : List (Addr × Obj)) (op : Str) (ks : List Int) (s' : Shared) : Prop :=
  ∃ h' tk', s' = { s with heap := h', toks := tk' } ∧ Fr h₀ L h' m ∧ News h₀ L h' base ∧ ¬ ((op == Str.ofString "CMPLX") = true ∧ ks.getD (Int.toNat 0) 0 = 3 ∧ (ks.length : Int) = 2)
theorem cmplx_cut {prog : Program} {w : World} {A : Around} {E : Value → Shared → Prop} {s : Shared} {h₀ : Heap} {env : Env} {m : Str → Option Value} {Q : Flow → Shared → Prop} {base : List (Addr × Obj)} {op : Str} {t1 : Tok} {vs : List Value} {ks : List Int} {a : Stmt} {rest : List Stmt} (_F : Fr h₀ env.locals s.heap m) (_N : News h₀ env.locals s.heap base) (_o : m (Str.ofString "operation") = some (.str op t1)) (_i : IntsAre vs ks)
    (h : wpAny (model prog w) A (execs [a] env) (CutPost (IfC s h₀ env.locals m base op ks) Q) E s)
    (h2 : ∀ h' tk', Fr h₀ env.locals h' m → News h₀ env.locals h' base → ¬ ((op == Str.ofString "CMPLX") = true ∧ ks.getD (Int.toNat 0) 0 = 3 ∧ (ks.length : Int) = 2) → wpAny (model prog w) A (execs rest env) Q E { s with heap := h', toks := tk' }) :
    wpAny (model prog w) A (execs (a :: rest) env) Q E s :=
  execs_cut [a] h fun s' i => by
    obtain ⟨h', tk', rfl, F, N, c⟩ := i
    exact h2 h' tk' F N c
theorem cmplx_end {s : Shared} {h₀ : Heap} {L : Addr} {m : Str → Option Value} {Q : Flow → Shared → Prop} {base big : List (Addr × Obj)} {op : Str} {ks : List Int} {h' : Heap} {tk' : Nat} (F : Fr h₀ L h' m) (N : News h₀ L h' big) (sub : ∀ p ∈ base, p ∈ big) (c : ¬ ((op == Str.ofString "CMPLX") = true ∧ ks.getD (Int.toNat 0) 0 = 3 ∧ (ks.length : Int) = 2)) :
    CutPost (IfC s h₀ L m base op ks) Q .next { s with heap := h', toks := tk' } := ⟨h', tk', rfl, F, fun p hp => N p (sub p hp), c⟩
theorem kw_C8_5 : True := by
  k_with "m:execs cons" =>
    (k_here; (with_reducible show wpAny _ _ (execs (Stmt.If (Expr.BoolOp _ _ _) _ _ _ :: Stmt.Return _ _ :: _) _) _ _ _); k_dflt (refine' cmplx_cut ?kwF ?kwN ?kwo ?kwi ?_ ?_; (case kwF => k_asm); (case kwN => k_asm); (case kwo => exact rfl); (case kwi => assumption)); all_goals intros)
  trivial
theorem ct_choose {w : World} {p : Program} {loose : List Str} {mean : ExcName → Option Value} {mg mb : Str → Option Value} {nm : Str} {tn : Tok} {ks : List Int} {vs : List Value} {c : Nat} {kl : Addr} {news : List (Addr × Obj)}
  {dp un : Nat} {gd : Option (List Code)} {cn : Str} {cs : Scope} {a : Addr} {ccd : Value} {cl : List (Str × Addr)} {outer : List Env} {A₀ : Around} {base h₀ : Heap} {L : Addr} {m : Str → Option Value} {s : Shared} {Q E : Value → Shared → Prop} :
  Below A₀ base outer h₀ → Fr h₀ L s.heap m → (hd.heap_39 w.params).In h₀ → Top p loose mean mg mb h₀ → cs.kind = .function → dp < 340 → un < 80 → News h₀ L s.heap ((kl, listOf vs.toArray c) :: news) → IntsAre vs ks → (ks.length : Int) ≤ 4 →
  (∀ T op t1 r t2 wl o ws w h' tk', chooseP nm ks = some (op, w, r) → ListObj o ws → IntsAre ws w → Fr h₀ L h' m → News h₀ L h' ((T, tripleObj op t1 wl r t2) :: (wl, o) :: (kl, listOf vs.toArray c) :: news) → Q (.ref T) { s with heap := h', toks := tk' }) →
  (∀ g e ta x tk h' tk', chooseP nm ks = none → Fr h₀ L g m → RaisedS base g (envX cn cs L a ccd cl :: outer) e (.ref 44) ta [.str x tk] ((kl, listOf vs.toArray c) :: news) h' → g.UpToSlots h' → E (.ref e) { s with heap := h', toks := tk' }) →
  wpAny (model Challenge.rw_no0227_01.row.prog w) (ktrTop dp un gd cn cs L a ccd cl outer) (call (.ref 108) [.str nm tn, .ref kl]) Q E s := by
  k_fill
  intro B F X T hk hdp hun N hi hle hret herr
  refine wpAny_call ?_
  k_dflt cell_enter
  k_with "pyIter ref" => k_search (fun pre => GoodPre ks nm pre)
  k_with "state" => first | exact good_nil | exact good_spec (by assumption) (by assumption) (by assumption) (by assumption) | exact good_gen (by assumption) (by assumption) (by assumption) (by assumption) (by assumption)
  k_steps
  all_goals first
    | exact herr _ _ _ _ _ _ _ (by first
        | exact no_name (by assumption) (by assumption)
        | exact no_count (by first | exact opLet_spec (by assumption) | exact opLet_gen (by assumption) (by assumption)) (by assumption)
        | exact no_kind (by first | exact opLet_spec (by assumption) | exact opLet_gen (by assumption) (by assumption)) kMem (by assumption)
        | exact no_let (by first | exact opLet_spec (by assumption) | exact opLet_gen (by assumption) (by assumption)) kMem (nums_not (by assumption))
        | exact no_let (by first | exact opLet_spec (by assumption) | exact opLet_gen (by assumption) (by assumption)) kMem (any_not (by assumption))
        | exact no_cmplx (by first | exact opLet_spec (by assumption) | exact opLet_gen (by assumption) (by assumption)) (by assumption) (by assumption) (by assumption)) (by assumption) (raised_sub (by assumption) (by refine List.forall_mem_cons.mpr ⟨by k_mem, fun p hp => ?_⟩; repeat (first | exact hp | refine List.mem_cons_of_mem _ ?_ | refine List.mem_append_left _ ?_))) (by assumption)
    | exact hret _ _ _ _ _ _ _ _ _ _ _ (yes_of (by first | exact opLet_spec (by assumption) | exact opLet_gen (by assumption) (by assumption)) (by assumption) (by assumption) (by assumption)) (by assumption) (by assumption) (by assumption) (news_pick3 (by assumption) (by k_mem) (by k_mem) (by k_mem) (by intro p hp; repeat (first | exact hp | refine List.mem_cons_of_mem _ ?_ | refine List.mem_append_left _ ?_)))
    | exact cmplx_end (by assumption) (by assumption) (by intro p hp; repeat (first | exact hp | refine List.mem_cons_of_mem _ ?_ | refine List.mem_append_left _ ?_)) (by first | exact fun q => absurd q.2.2 (by assumption) | exact fun q => absurd q.2.1 (by assumption) | exact fun q => Bool.false_ne_true ((Eq.symm (by assumption)).trans q.1))
end

section
open PySem PySem.W PyProof.Rows PySem.Calls
theorem kw_C9_1 : True := by
  k_with_none
  k_with "m:exec Raise some none" =>
    (k_here; (with_reducible show wpAny _ _ (exec (Stmt.Raise (some (Expr.Call (Expr.Name ("CheckFault" : Str) _) _ _ _)) none _) _) _ _ _); refine Raise_thrown rfl ?_)
  k_with "m:call ref" =>
    (k_here; (with_reducible show wpAny _ _ (call (Value.ref 44) [Value.str _ _]) _ _ _); k_dflt (refine' ct_fault ?kwB ?kwF ?kwX ?kwT ?kwhk ?kwhd ?kwhu ?kwN ?_; (case kwB => k_asm); (case kwF => k_asm); (case kwX => k_asm); (case kwT => k_asm); (case kwN => k_asm); (case kwhk => first | exact rfl | assumption); (case kwhd => first | omega | ((try simp only [depth_under_make, depth_under_kw, depth_in1, depth_deeper, depth_caller]); (try dsimp only [ktrTop]); omega)); (case kwhu => first | omega | ((try simp only [units_in1, units_deeper, Around.mark_units, units_caller]); (try dsimp only [ktrTop]); omega)); k_whole); intro e' ta' h' tk' fa' F' N'; (obtain ⟨dd', sl', he'⟩ := fa'.there))
  k_with "m:Thrown" =>
    (refine ⟨_, _, _, _, rfl, by k_in, by kts_isx, by assumption, ?_⟩)
  k_with "m:leaving ref" =>
    (k_here; first
      | ((rename FaultK _ _ _ _ _ _ _ _ => fa9); refine' leave_fault ?kwK fa9 ?kwF ?kwN ?_ rfl; (case kwK => assumption); (case kwF => assumption); (case kwN => k_asm); k_whole; intro h' S' R' U'; (try dsimp only at S' R' U' ⊢))
      | (refine' leave_onS ?kwk1 ?kwk2 ?kwk3 ?kwk4 ?_; (case kwk3 => assumption); (case kwk2 => assumption); (case kwk1 => assumption); (case kwk4 => assumption); k_whole; intro h' S' R' U'; (try dsimp only at S' R' U' ⊢)))
  k_with "m:call ref" =>
    (k_here; (with_reducible show wpAny _ _ (call (Value.ref 61) _) _ _ _); k_dflt (refine' kgeneric1 nm ?kwB ?kwF ?kwX ?kwT ?kwhk ?kwhd ?kwhu ?kwN ?_; (case kwB => k_asm); (case kwF => k_asm); (case kwX => k_asm); (case kwT => k_asm); (case kwN => k_asm); (case kwhk => first | exact rfl | assumption); (case kwhd => first | omega | ((try simp only [depth_under_make, depth_under_kw, depth_in1, depth_deeper, depth_caller]); (try dsimp only [ktrTop]); omega)); (case kwhu => first | omega | ((try simp only [units_in1, units_deeper, Around.mark_units, units_caller]); (try dsimp only [ktrTop]); omega)); all_goals intros))
  k_with "m:call ref" =>
    (k_here; (with_reducible show wpAny _ _ (call (Value.ref 68) _) _ _ _); k_dflt (refine' kspecific nm ?kwB ?kwF ?kwX ?kwT ?kwhk ?kwhd ?kwhu ?kwN ?_ ?_; (case kwB => k_asm); (case kwF => k_asm); (case kwX => k_asm); (case kwT => k_asm); (case kwN => k_asm); (case kwhk => first | exact rfl | assumption); (case kwhd => first | omega | ((try simp only [depth_under_make, depth_under_kw, depth_in1, depth_deeper, depth_caller]); (try dsimp only [ktrTop]); omega)); (case kwhu => first | omega | ((try simp only [units_in1, units_deeper, Around.mark_units, units_caller]); (try dsimp only [ktrTop]); omega)); all_goals intros))
  k_with "m:compareOp In str ref" =>
    (k_here; k_dflt (refine' in_gen ?kwG ?kwD ?kws ?_ ?_; (case kwD => exact News.get (by k_asm) (by k_mem)); (case kwG => assumption); (case kws => assumption); all_goals intros))
  k_with "m:compareOp In str ref" =>
    (k_here; k_dflt (refine' in_has ?kwH ?kwD ?kws ?_; (case kwD => exact News.get (by k_asm) (by k_mem)); (case kwH => assumption); (case kws => assumption); k_whole; (try dsimp only [Option.isSome_some, Option.isSome_none])))
  k_with "m:subscriptTail" =>
    (k_here; (with_reducible show wpAny _ _ (subscriptTail _ _ (Value.ref _) (Value.str _ _)) _ _ _); k_dflt (refine' item_has ?kwH ?kwD ?_; (case kwD => exact News.get (by k_asm) (by k_mem)); (case kwH => assumption); k_whole))
  k_with "m:getMethod ref" =>
    (k_here; (with_reducible show wpAny _ _ (getMethod (Value.ref _) (Str.ofString "get") _) _ _ _); k_dflt (refine' getMethod_has ?kwH ?kwD ?_; (case kwD => exact News.get (by k_asm) (by k_mem)); (case kwH => assumption); k_whole))
  k_with "m:call builtin:dict.get" =>
    (k_here; (with_reducible show wpAny _ _ (call (Value.builtin "dict.get") [Value.ref _, Value.str _ _]) _ _ _); k_dflt (refine' get_has ?kwH ?kwD ?kws ?_; (case kwD => exact News.get (by k_asm) (by k_mem)); (case kwH => assumption); (case kws => assumption); k_whole; (try dsimp only [Option.getD_some, Option.getD_none])))
  trivial

theorem kw_C9_2 : True := by
  k_with "m:call ref" =>
    (k_here; (with_reducible show wpAny _ _ (call (Value.ref 108) _) _ _ _); k_dflt (refine' ct_choose ?kwB ?kwF ?kwX ?kwT ?kwhk ?kwhd ?kwhu ?kwN ?kwhi ?kwh4 ?_ ?_; (case kwB => k_asm); (case kwF => k_asm); (case kwX => k_asm); (case kwT => k_asm); (case kwhk => first | exact rfl | assumption); (case kwhd => first | omega | ((try simp only [depth_under_make, depth_under_kw, depth_in1, depth_deeper, depth_caller]); (try dsimp only [ktrTop]); omega)); (case kwhu => first | omega | ((try simp only [units_in1, units_deeper, Around.mark_units, units_caller]); (try dsimp only [ktrTop]); omega)); (case kwN => refine news_first (by k_asm) (by k_mem)); (case kwhi => assumption); (case kwh4 => assumption); all_goals intros))
  trivial

theorem ct_heard {w : World} {p : Program} {loose : List Str} {mean : ExcName → Option Value} {mg mb : Str → Option Value} {nm : Str} {tn : Tok} {ks : List Int} {vs : List Value} {c : Nat} {kl : Addr} {news : List (Addr × Obj)}
  {dp un : Nat} {gd : Option (List Code)} {cn : Str} {cs : Scope} {a : Addr} {ccd : Value} {A₀ : Around} {h₀ : Heap} {L : Addr} {m : Str → Option Value} {s : Shared} {Q E : Value → Shared → Prop} :
  Below A₀ h₀ [] h₀ → Fr h₀ L s.heap m → (hd.heap_39 w.params).In h₀ → Top p loose mean mg mb h₀ → cs.kind = .function → dp < 330 → un < 60 → News h₀ L s.heap ((kl, listOf vs.toArray c) :: news) → IntsAre vs ks → (ks.length : Int) ≤ 4 →
  (∀ h' tk', chooseP nm ks = none → Fr h₀ L h' m → News h₀ L h' ((kl, listOf vs.toArray c) :: news) → Q .none { s with heap := h', toks := tk' }) →
  (∀ T op t1 r t2 wl o ws w h' tk', chooseP nm ks = some (op, w, r) → ListObj o ws → IntsAre ws w → Fr h₀ L h' m → News h₀ L h' ((T, tripleObj op t1 wl r t2) :: (wl, o) :: (kl, listOf vs.toArray c) :: news) → Q (.ref T) { s with heap := h', toks := tk' }) →
  wpAny (model Challenge.rw_no0227_01.row.prog w) (ktrTop dp un gd cn cs L a ccd [] []) (call (.ref 151) [.str nm tn, .ref kl]) Q E s := by
  k_fill
  intro B F X T hk hdp hun N hi hle hno hyes
  refine wpAny_call ?_
  k_dflt (refine' code_defS0 ?k1 ?k2 ?k3 ?k4 ?k5 ?kA ?k6 ?k7 ?k8 ?k9 ?kB ?_ ?cK ?c2 ?c3 ?c4 ?c5; (case kA => exact rfl); (case k2 => k_asm); (case k1 => k_asm); (case k3 => k_asm); (case k4 => k_asm); (case k5 => k_asm); (case k6 => k_is); (case k7 => k_is); (case k8 => ktr_room); (case k9 => first | exact binds_K (by k_in) rfl (by k_is) rfl rfl rfl | exact BindsTo.of_eq rfl); (case kB => exact locs rfl); (case cK => first | exact rfl | assumption); (case c2 => exact rfl); (case c3 => exact rfl); (case c4 => exact rfl); (case c5 => decide); k_whole; intro g' L' h' FG' F' N' B' X' T' D'; (try dsimp only); (try k_lift B'); (try k_fold))
  k_steps
  all_goals first
    | exact hno _ _ (by assumption) (by assumption) (cb_drop (by assumption) (by refine List.forall_mem_cons.mpr ⟨by k_mem, fun p hp => ?_⟩; repeat (first | exact hp | refine List.mem_cons_of_mem _ ?_ | refine List.mem_append_left _ ?_)))
    | exact hyes _ _ _ _ _ _ _ _ _ _ _ (by assumption) (by assumption) (by assumption) (by assumption) (news_pick3 (by assumption) (by k_mem) (by k_mem) (by k_mem) (by intro p hp; repeat (first | exact hp | refine List.mem_cons_of_mem _ ?_ | refine List.mem_append_left _ ?_)))
end

section
open PySem PySem.W PyProof.Rows PySem.Calls
noncomputable def cut (c : Nat) : List Nat → List (List Nat)
  | [] => [[]]
  | a :: l => if a = c then [] :: cut c l else match cut c l with
    | [] => [[a]]
    | p :: r => (a :: p) :: r
theorem cut_free {c : Nat} : ∀ {p : List Nat}, c ∉ p → cut c p = [p]
  | [], _ => rfl
  | a :: p, h => by
    have h1 : a ≠ c := fun e => h (e ▸ .head _)
    have h2 := cut_free (c := c) (p := p) fun q => h (.tail _ q)
    unfold cut; rw [if_neg h1, h2]
theorem cut_app {c : Nat} {l : List Nat} : ∀ {p : List Nat}, c ∉ p → cut c (p ++ c :: l) = p :: cut c l
  | [], _ => by show cut c (c :: l) = _; unfold cut; rw [if_pos rfl]; cases l <;> rfl
  | a :: p, h => by
    have h1 : a ≠ c := fun e => h (e ▸ .head _)
    have h2 := cut_app (c := c) (l := l) (p := p) fun q => h (.tail _ q)
    show cut c (a :: (p ++ c :: l)) = _
    rw [cut, if_neg h1, h2]
theorem cut_join {c : Nat} : ∀ {l : List Str}, l ≠ [] → (∀ p ∈ l, c ∉ p.cps.toList) → cut c (Str.join ⟨#[c]⟩ l).cps.toList = l.map (·.cps.toList)
  | [], h, _ => absurd rfl h
  | [x], _, h => cut_free (h x (.head _))
  | x :: y :: r, _, h => by
    show cut c (x ++ ⟨#[c]⟩ ++ Str.join ⟨#[c]⟩ (y :: r)).cps.toList = _
    rw [Str.cps_append, Str.cps_append, Array.toList_append, Array.toList_append, List.append_assoc]
    show cut c (x.cps.toList ++ c :: (Str.join ⟨#[c]⟩ (y :: r)).cps.toList) = _
    rw [cut_app (h x (.head _)), cut_join (by simp) fun p hp => h p (.tail _ hp)]; rfl
theorem split_cut (x : Str) (c : Nat) : (Txt.split x ⟨#[c]⟩).map (·.cps.toList) = cut c x.cps.toList := by
  have h := cut_join (c := c) (l := Txt.split x ⟨#[c]⟩) (fun e => by have := split_pos x ⟨#[c]⟩; rw [e] at this; exact absurd this (by decide)) (StrLaws.split_free x c)
  rw [StrLaws.join_split] at h
  exact h.symm
theorem split_is {x : Str} {c : Nat} {l : List Str} (h : cut c x.cps.toList = l.map (·.cps.toList)) : Txt.split x ⟨#[c]⟩ = l := by
  have k := (split_cut x c).trans h
  exact List.map_inj_right (fun a b e => by cases a; cases b; exact congrArg Str.mk (Array.toList_inj.mp e)) |>.mp k
noncomputable def genText : Str := Str.mk #[73, 78, 84, 58, 48, 49, 50, 51, 58, 48, 32, 82, 69, 65, 76, 58, 48, 49, 50, 51, 58, 49, 32, 68, 66, 76, 69, 58, 48, 49, 50, 51, 58, 50, 32, 67, 77, 80, 76, 88, 58, 48, 49, 50, 51, 58, 51, 32, 65, 73, 78, 84, 58, 49, 50, 58, 61, 32, 65, 78, 73, 78, 84, 58, 49, 50, 58, 61, 32, 78, 73, 78, 84, 58, 49, 50, 58, 48, 32, 65, 66, 83, 58, 48, 49, 50, 51, 58, 61, 32, 77, 79, 68, 58, 48, 49, 50, 58, 61, 32, 83, 73, 71, 78, 58, 48, 49, 50, 58, 61, 32, 68, 73, 77, 58, 48, 49, 50, 58, 61, 32, 77, 65, 88, 58, 48, 49, 50, 58, 61, 32, 77, 73, 78, 58, 48, 49, 50, 58, 61, 32, 83, 81, 82, 84, 58, 49, 50, 51, 58, 61, 32, 69, 88, 80, 58, 49, 50, 51, 58, 61, 32, 76, 79, 71, 58, 49, 50, 51, 58, 61, 32, 76, 79, 71, 49, 48, 58, 49, 50, 58, 61, 32, 83, 73, 78, 58, 49, 50, 51, 58, 61, 32, 67, 79, 83, 58, 49, 50, 51, 58, 61, 32, 84, 65, 78, 58, 49, 50, 58, 61, 32, 65, 83, 73, 78, 58, 49, 50, 58, 61, 32, 65, 67, 79, 83, 58, 49, 50, 58, 61, 32, 65, 84, 65, 78, 58, 49, 50, 58, 61, 32, 65, 84, 65, 78, 50, 58, 49, 50, 58, 61, 32, 83, 73, 78, 72, 58, 49, 50, 58, 61, 32, 67, 79, 83, 72, 58, 49, 50, 58, 61, 32, 84, 65, 78, 72, 58, 49, 50, 58, 61]
noncomputable def specText : Str := Str.mk #[73, 70, 73, 88, 58, 73, 78, 84, 58, 49, 58, 48, 32, 73, 68, 73, 78, 84, 58, 73, 78, 84, 58, 50, 58, 48, 32, 70, 76, 79, 65, 84, 58, 82, 69, 65, 76, 58, 48, 58, 49, 32, 83, 78, 71, 76, 58, 82, 69, 65, 76, 58, 50, 58, 49, 32, 65, 77, 65, 88, 48, 58, 65, 77, 65, 88, 48, 58, 48, 58, 49, 32, 77, 65, 88, 49, 58, 77, 65, 88, 49, 58, 49, 58, 48, 32, 65, 77, 73, 78, 48, 58, 65, 77, 73, 78, 48, 58, 48, 58, 49, 32, 77, 73, 78, 49, 58, 77, 73, 78, 49, 58, 49, 58, 48, 32, 73, 67, 72, 65, 82, 58, 73, 67, 72, 65, 82, 58, 53, 58, 48, 32, 67, 72, 65, 82, 58, 67, 72, 65, 82, 58, 48, 58, 53, 32, 68, 73, 78, 84, 58, 65, 73, 78, 84, 58, 50, 58, 50, 32, 68, 78, 73, 78, 84, 58, 65, 78, 73, 78, 84, 58, 50, 58, 50, 32, 73, 68, 78, 73, 78, 84, 58, 78, 73, 78, 84, 58, 50, 58, 48, 32, 73, 65, 66, 83, 58, 65, 66, 83, 58, 48, 58, 48, 32, 68, 65, 66, 83, 58, 65, 66, 83, 58, 50, 58, 50, 32, 67, 65, 66, 83, 58, 65, 66, 83, 58, 51, 58, 49, 32, 65, 77, 79, 68, 58, 77, 79, 68, 58, 49, 58, 49, 32, 68, 77, 79, 68, 58, 77, 79, 68, 58, 50, 58, 50, 32, 73, 83, 73, 71, 78, 58, 83, 73, 71, 78, 58, 48, 58, 48, 32, 68, 83, 73, 71, 78, 58, 83, 73, 71, 78, 58, 50, 58, 50, 32, 73, 68, 73, 77, 58, 68, 73, 77, 58, 48, 58, 48, 32, 68, 68, 73, 77, 58, 68, 73, 77, 58, 50, 58, 50, 32, 68, 80, 82, 79, 68, 58, 68, 80, 82, 79, 68, 58, 49, 58, 50, 32, 77, 65, 88, 48, 58, 77, 65, 88, 58, 48, 58, 48, 32, 65, 77, 65, 88, 49, 58, 77, 65, 88, 58, 49, 58, 49, 32, 68, 77, 65, 88, 49, 58, 77, 65, 88, 58, 50, 58, 50, 32, 77, 73, 78, 48, 58, 77, 73, 78, 58, 48, 58, 48, 32, 65, 77, 73, 78, 49, 58, 77, 73, 78, 58, 49, 58, 49, 32, 68, 77, 73, 78, 49, 58, 77, 73, 78, 58, 50, 58, 50, 32, 76, 69, 78, 58, 76, 69, 78, 58, 53, 58, 48, 32, 73, 78, 68, 69, 88, 58, 73, 78, 68, 69, 88, 58, 53, 58, 48, 32, 65, 73, 77, 65, 71, 58, 65, 73, 77, 65, 71, 58, 51, 58, 49, 32, 67, 79, 78, 74, 71, 58, 67, 79, 78, 74, 71, 58, 51, 58, 51, 32, 68, 83, 81, 82, 84, 58, 83, 81, 82, 84, 58, 50, 58, 50, 32, 67, 83, 81, 82, 84, 58, 83, 81, 82, 84, 58, 51, 58, 51, 32, 68, 69, 88, 80, 58, 69, 88, 80, 58, 50, 58, 50, 32, 67, 69, 88, 80, 58, 69, 88, 80, 58, 51, 58, 51, 32, 65, 76, 79, 71, 58, 76, 79, 71, 58, 49, 58, 49, 32, 68, 76, 79, 71, 58, 76, 79, 71, 58, 50, 58, 50, 32, 67, 76, 79, 71, 58, 76, 79, 71, 58, 51, 58, 51, 32, 65, 76, 79, 71, 49, 48, 58, 76, 79, 71, 49, 48, 58, 49, 58, 49, 32, 68, 76, 79, 71, 49, 48, 58, 76, 79, 71, 49, 48, 58, 50, 58, 50, 32, 68, 83, 73, 78, 58, 83, 73, 78, 58, 50, 58, 50, 32, 67, 83, 73, 78, 58, 83, 73, 78, 58, 51, 58, 51, 32, 68, 67, 79, 83, 58, 67, 79, 83, 58, 50, 58, 50, 32, 67, 67, 79, 83, 58, 67, 79, 83, 58, 51, 58, 51, 32, 68, 84, 65, 78, 58, 84, 65, 78, 58, 50, 58, 50, 32, 68, 65, 83, 73, 78, 58, 65, 83, 73, 78, 58, 50, 58, 50, 32, 68, 65, 67, 79, 83, 58, 65, 67, 79, 83, 58, 50, 58, 50, 32, 68, 65, 84, 65, 78, 58, 65, 84, 65, 78, 58, 50, 58, 50, 32, 68, 65, 84, 65, 78, 50, 58, 65, 84, 65, 78, 50, 58, 50, 58, 50, 32, 68, 83, 73, 78, 72, 58, 83, 73, 78, 72, 58, 50, 58, 50, 32, 68, 67, 79, 83, 72, 58, 67, 79, 83, 72, 58, 50, 58, 50, 32, 68, 84, 65, 78, 72, 58, 84, 65, 78, 72, 58, 50, 58, 50, 32, 76, 71, 69, 58, 76, 71, 69, 58, 53, 58, 52, 32, 76, 71, 84, 58, 76, 71, 84, 58, 53, 58, 52, 32, 76, 76, 69, 58, 76, 76, 69, 58, 53, 58, 52, 32, 76, 76, 84, 58, 76, 76, 84, 58, 53, 58, 52]
noncomputable def allText : Str := Str.mk #[73, 78, 84, 58, 48, 49, 50, 51, 58, 48, 32, 82, 69, 65, 76, 58, 48, 49, 50, 51, 58, 49, 32, 68, 66, 76, 69, 58, 48, 49, 50, 51, 58, 50, 32, 67, 77, 80, 76, 88, 58, 48, 49, 50, 51, 58, 51, 32, 65, 73, 78, 84, 58, 49, 50, 58, 61, 32, 65, 78, 73, 78, 84, 58, 49, 50, 58, 61, 32, 78, 73, 78, 84, 58, 49, 50, 58, 48, 32, 65, 66, 83, 58, 48, 49, 50, 51, 58, 61, 32, 77, 79, 68, 58, 48, 49, 50, 58, 61, 32, 83, 73, 71, 78, 58, 48, 49, 50, 58, 61, 32, 68, 73, 77, 58, 48, 49, 50, 58, 61, 32, 77, 65, 88, 58, 48, 49, 50, 58, 61, 32, 77, 73, 78, 58, 48, 49, 50, 58, 61, 32, 83, 81, 82, 84, 58, 49, 50, 51, 58, 61, 32, 69, 88, 80, 58, 49, 50, 51, 58, 61, 32, 76, 79, 71, 58, 49, 50, 51, 58, 61, 32, 76, 79, 71, 49, 48, 58, 49, 50, 58, 61, 32, 83, 73, 78, 58, 49, 50, 51, 58, 61, 32, 67, 79, 83, 58, 49, 50, 51, 58, 61, 32, 84, 65, 78, 58, 49, 50, 58, 61, 32, 65, 83, 73, 78, 58, 49, 50, 58, 61, 32, 65, 67, 79, 83, 58, 49, 50, 58, 61, 32, 65, 84, 65, 78, 58, 49, 50, 58, 61, 32, 65, 84, 65, 78, 50, 58, 49, 50, 58, 61, 32, 83, 73, 78, 72, 58, 49, 50, 58, 61, 32, 67, 79, 83, 72, 58, 49, 50, 58, 61, 32, 84, 65, 78, 72, 58, 49, 50, 58, 61, 32, 73, 70, 73, 88, 58, 73, 78, 84, 58, 49, 58, 48, 32, 73, 68, 73, 78, 84, 58, 73, 78, 84, 58, 50, 58, 48, 32, 70, 76, 79, 65, 84, 58, 82, 69, 65, 76, 58, 48, 58, 49, 32, 83, 78, 71, 76, 58, 82, 69, 65, 76, 58, 50, 58, 49, 32, 65, 77, 65, 88, 48, 58, 65, 77, 65, 88, 48, 58, 48, 58, 49, 32, 77, 65, 88, 49, 58, 77, 65, 88, 49, 58, 49, 58, 48, 32, 65, 77, 73, 78, 48, 58, 65, 77, 73, 78, 48, 58, 48, 58, 49, 32, 77, 73, 78, 49, 58, 77, 73, 78, 49, 58, 49, 58, 48, 32, 73, 67, 72, 65, 82, 58, 73, 67, 72, 65, 82, 58, 53, 58, 48, 32, 67, 72, 65, 82, 58, 67, 72, 65, 82, 58, 48, 58, 53, 32, 68, 73, 78, 84, 58, 65, 73, 78, 84, 58, 50, 58, 50, 32, 68, 78, 73, 78, 84, 58, 65, 78, 73, 78, 84, 58, 50, 58, 50, 32, 73, 68, 78, 73, 78, 84, 58, 78, 73, 78, 84, 58, 50, 58, 48, 32, 73, 65, 66, 83, 58, 65, 66, 83, 58, 48, 58, 48, 32, 68, 65, 66, 83, 58, 65, 66, 83, 58, 50, 58, 50, 32, 67, 65, 66, 83, 58, 65, 66, 83, 58, 51, 58, 49, 32, 65, 77, 79, 68, 58, 77, 79, 68, 58, 49, 58, 49, 32, 68, 77, 79, 68, 58, 77, 79, 68, 58, 50, 58, 50, 32, 73, 83, 73, 71, 78, 58, 83, 73, 71, 78, 58, 48, 58, 48, 32, 68, 83, 73, 71, 78, 58, 83, 73, 71, 78, 58, 50, 58, 50, 32, 73, 68, 73, 77, 58, 68, 73, 77, 58, 48, 58, 48, 32, 68, 68, 73, 77, 58, 68, 73, 77, 58, 50, 58, 50, 32, 68, 80, 82, 79, 68, 58, 68, 80, 82, 79, 68, 58, 49, 58, 50, 32, 77, 65, 88, 48, 58, 77, 65, 88, 58, 48, 58, 48, 32, 65, 77, 65, 88, 49, 58, 77, 65, 88, 58, 49, 58, 49, 32, 68, 77, 65, 88, 49, 58, 77, 65, 88, 58, 50, 58, 50, 32, 77, 73, 78, 48, 58, 77, 73, 78, 58, 48, 58, 48, 32, 65, 77, 73, 78, 49, 58, 77, 73, 78, 58, 49, 58, 49, 32, 68, 77, 73, 78, 49, 58, 77, 73, 78, 58, 50, 58, 50, 32, 76, 69, 78, 58, 76, 69, 78, 58, 53, 58, 48, 32, 73, 78, 68, 69, 88, 58, 73, 78, 68, 69, 88, 58, 53, 58, 48, 32, 65, 73, 77, 65, 71, 58, 65, 73, 77, 65, 71, 58, 51, 58, 49, 32, 67, 79, 78, 74, 71, 58, 67, 79, 78, 74, 71, 58, 51, 58, 51, 32, 68, 83, 81, 82, 84, 58, 83, 81, 82, 84, 58, 50, 58, 50, 32, 67, 83, 81, 82, 84, 58, 83, 81, 82, 84, 58, 51, 58, 51, 32, 68, 69, 88, 80, 58, 69, 88, 80, 58, 50, 58, 50, 32, 67, 69, 88, 80, 58, 69, 88, 80, 58, 51, 58, 51, 32, 65, 76, 79, 71, 58, 76, 79, 71, 58, 49, 58, 49, 32, 68, 76, 79, 71, 58, 76, 79, 71, 58, 50, 58, 50, 32, 67, 76, 79, 71, 58, 76, 79, 71, 58, 51, 58, 51, 32, 65, 76, 79, 71, 49, 48, 58, 76, 79, 71, 49, 48, 58, 49, 58, 49, 32, 68, 76, 79, 71, 49, 48, 58, 76, 79, 71, 49, 48, 58, 50, 58, 50, 32, 68, 83, 73, 78, 58, 83, 73, 78, 58, 50, 58, 50, 32, 67, 83, 73, 78, 58, 83, 73, 78, 58, 51, 58, 51, 32, 68, 67, 79, 83, 58, 67, 79, 83, 58, 50, 58, 50, 32, 67, 67, 79, 83, 58, 67, 79, 83, 58, 51, 58, 51, 32, 68, 84, 65, 78, 58, 84, 65, 78, 58, 50, 58, 50, 32, 68, 65, 83, 73, 78, 58, 65, 83, 73, 78, 58, 50, 58, 50, 32, 68, 65, 67, 79, 83, 58, 65, 67, 79, 83, 58, 50, 58, 50, 32, 68, 65, 84, 65, 78, 58, 65, 84, 65, 78, 58, 50, 58, 50, 32, 68, 65, 84, 65, 78, 50, 58, 65, 84, 65, 78, 50, 58, 50, 58, 50, 32, 68, 83, 73, 78, 72, 58, 83, 73, 78, 72, 58, 50, 58, 50, 32, 68, 67, 79, 83, 72, 58, 67, 79, 83, 72, 58, 50, 58, 50, 32, 68, 84, 65, 78, 72, 58, 84, 65, 78, 72, 58, 50, 58, 50, 32, 76, 71, 69, 58, 76, 71, 69, 58, 53, 58, 52, 32, 76, 71, 84, 58, 76, 71, 84, 58, 53, 58, 52, 32, 76, 76, 69, 58, 76, 76, 69, 58, 53, 58, 52, 32, 76, 76, 84, 58, 76, 76, 84, 58, 53, 58, 52]
/-- the rows of the law's two texts: name, operation, kinds, result -/
noncomputable def rowTab : List (Str × Option Str × Str × Str) := [
  (Str.mk #[73, 78, 84], none, Str.mk #[48, 49, 50, 51], Str.mk #[48]),
  (Str.mk #[82, 69, 65, 76], none, Str.mk #[48, 49, 50, 51], Str.mk #[49]),
  (Str.mk #[68, 66, 76, 69], none, Str.mk #[48, 49, 50, 51], Str.mk #[50]),
  (Str.mk #[67, 77, 80, 76, 88], none, Str.mk #[48, 49, 50, 51], Str.mk #[51]),
  (Str.mk #[65, 73, 78, 84], none, Str.mk #[49, 50], Str.mk #[61]),
  (Str.mk #[65, 78, 73, 78, 84], none, Str.mk #[49, 50], Str.mk #[61]),
  (Str.mk #[78, 73, 78, 84], none, Str.mk #[49, 50], Str.mk #[48]),
  (Str.mk #[65, 66, 83], none, Str.mk #[48, 49, 50, 51], Str.mk #[61]),
  (Str.mk #[77, 79, 68], none, Str.mk #[48, 49, 50], Str.mk #[61]),
  (Str.mk #[83, 73, 71, 78], none, Str.mk #[48, 49, 50], Str.mk #[61]),
  (Str.mk #[68, 73, 77], none, Str.mk #[48, 49, 50], Str.mk #[61]),
  (Str.mk #[77, 65, 88], none, Str.mk #[48, 49, 50], Str.mk #[61]),
  (Str.mk #[77, 73, 78], none, Str.mk #[48, 49, 50], Str.mk #[61]),
  (Str.mk #[83, 81, 82, 84], none, Str.mk #[49, 50, 51], Str.mk #[61]),
  (Str.mk #[69, 88, 80], none, Str.mk #[49, 50, 51], Str.mk #[61]),
  (Str.mk #[76, 79, 71], none, Str.mk #[49, 50, 51], Str.mk #[61]),
  (Str.mk #[76, 79, 71, 49, 48], none, Str.mk #[49, 50], Str.mk #[61]),
  (Str.mk #[83, 73, 78], none, Str.mk #[49, 50, 51], Str.mk #[61]),
  (Str.mk #[67, 79, 83], none, Str.mk #[49, 50, 51], Str.mk #[61]),
  (Str.mk #[84, 65, 78], none, Str.mk #[49, 50], Str.mk #[61]),
  (Str.mk #[65, 83, 73, 78], none, Str.mk #[49, 50], Str.mk #[61]),
  (Str.mk #[65, 67, 79, 83], none, Str.mk #[49, 50], Str.mk #[61]),
  (Str.mk #[65, 84, 65, 78], none, Str.mk #[49, 50], Str.mk #[61]),
  (Str.mk #[65, 84, 65, 78, 50], none, Str.mk #[49, 50], Str.mk #[61]),
  (Str.mk #[83, 73, 78, 72], none, Str.mk #[49, 50], Str.mk #[61]),
  (Str.mk #[67, 79, 83, 72], none, Str.mk #[49, 50], Str.mk #[61]),
  (Str.mk #[84, 65, 78, 72], none, Str.mk #[49, 50], Str.mk #[61]),
  (Str.mk #[73, 70, 73, 88], some (Str.mk #[73, 78, 84]), Str.mk #[49], Str.mk #[48]),
  (Str.mk #[73, 68, 73, 78, 84], some (Str.mk #[73, 78, 84]), Str.mk #[50], Str.mk #[48]),
  (Str.mk #[70, 76, 79, 65, 84], some (Str.mk #[82, 69, 65, 76]), Str.mk #[48], Str.mk #[49]),
  (Str.mk #[83, 78, 71, 76], some (Str.mk #[82, 69, 65, 76]), Str.mk #[50], Str.mk #[49]),
  (Str.mk #[65, 77, 65, 88, 48], some (Str.mk #[65, 77, 65, 88, 48]), Str.mk #[48], Str.mk #[49]),
  (Str.mk #[77, 65, 88, 49], some (Str.mk #[77, 65, 88, 49]), Str.mk #[49], Str.mk #[48]),
  (Str.mk #[65, 77, 73, 78, 48], some (Str.mk #[65, 77, 73, 78, 48]), Str.mk #[48], Str.mk #[49]),
  (Str.mk #[77, 73, 78, 49], some (Str.mk #[77, 73, 78, 49]), Str.mk #[49], Str.mk #[48]),
  (Str.mk #[73, 67, 72, 65, 82], some (Str.mk #[73, 67, 72, 65, 82]), Str.mk #[53], Str.mk #[48]),
  (Str.mk #[67, 72, 65, 82], some (Str.mk #[67, 72, 65, 82]), Str.mk #[48], Str.mk #[53]),
  (Str.mk #[68, 73, 78, 84], some (Str.mk #[65, 73, 78, 84]), Str.mk #[50], Str.mk #[50]),
  (Str.mk #[68, 78, 73, 78, 84], some (Str.mk #[65, 78, 73, 78, 84]), Str.mk #[50], Str.mk #[50]),
  (Str.mk #[73, 68, 78, 73, 78, 84], some (Str.mk #[78, 73, 78, 84]), Str.mk #[50], Str.mk #[48]),
  (Str.mk #[73, 65, 66, 83], some (Str.mk #[65, 66, 83]), Str.mk #[48], Str.mk #[48]),
  (Str.mk #[68, 65, 66, 83], some (Str.mk #[65, 66, 83]), Str.mk #[50], Str.mk #[50]),
  (Str.mk #[67, 65, 66, 83], some (Str.mk #[65, 66, 83]), Str.mk #[51], Str.mk #[49]),
  (Str.mk #[65, 77, 79, 68], some (Str.mk #[77, 79, 68]), Str.mk #[49], Str.mk #[49]),
  (Str.mk #[68, 77, 79, 68], some (Str.mk #[77, 79, 68]), Str.mk #[50], Str.mk #[50]),
  (Str.mk #[73, 83, 73, 71, 78], some (Str.mk #[83, 73, 71, 78]), Str.mk #[48], Str.mk #[48]),
  (Str.mk #[68, 83, 73, 71, 78], some (Str.mk #[83, 73, 71, 78]), Str.mk #[50], Str.mk #[50]),
  (Str.mk #[73, 68, 73, 77], some (Str.mk #[68, 73, 77]), Str.mk #[48], Str.mk #[48]),
  (Str.mk #[68, 68, 73, 77], some (Str.mk #[68, 73, 77]), Str.mk #[50], Str.mk #[50]),
  (Str.mk #[68, 80, 82, 79, 68], some (Str.mk #[68, 80, 82, 79, 68]), Str.mk #[49], Str.mk #[50]),
  (Str.mk #[77, 65, 88, 48], some (Str.mk #[77, 65, 88]), Str.mk #[48], Str.mk #[48]),
  (Str.mk #[65, 77, 65, 88, 49], some (Str.mk #[77, 65, 88]), Str.mk #[49], Str.mk #[49]),
  (Str.mk #[68, 77, 65, 88, 49], some (Str.mk #[77, 65, 88]), Str.mk #[50], Str.mk #[50]),
  (Str.mk #[77, 73, 78, 48], some (Str.mk #[77, 73, 78]), Str.mk #[48], Str.mk #[48]),
  (Str.mk #[65, 77, 73, 78, 49], some (Str.mk #[77, 73, 78]), Str.mk #[49], Str.mk #[49]),
  (Str.mk #[68, 77, 73, 78, 49], some (Str.mk #[77, 73, 78]), Str.mk #[50], Str.mk #[50]),
  (Str.mk #[76, 69, 78], some (Str.mk #[76, 69, 78]), Str.mk #[53], Str.mk #[48]),
  (Str.mk #[73, 78, 68, 69, 88], some (Str.mk #[73, 78, 68, 69, 88]), Str.mk #[53], Str.mk #[48]),
  (Str.mk #[65, 73, 77, 65, 71], some (Str.mk #[65, 73, 77, 65, 71]), Str.mk #[51], Str.mk #[49]),
  (Str.mk #[67, 79, 78, 74, 71], some (Str.mk #[67, 79, 78, 74, 71]), Str.mk #[51], Str.mk #[51]),
  (Str.mk #[68, 83, 81, 82, 84], some (Str.mk #[83, 81, 82, 84]), Str.mk #[50], Str.mk #[50]),
  (Str.mk #[67, 83, 81, 82, 84], some (Str.mk #[83, 81, 82, 84]), Str.mk #[51], Str.mk #[51]),
  (Str.mk #[68, 69, 88, 80], some (Str.mk #[69, 88, 80]), Str.mk #[50], Str.mk #[50]),
  (Str.mk #[67, 69, 88, 80], some (Str.mk #[69, 88, 80]), Str.mk #[51], Str.mk #[51]),
  (Str.mk #[65, 76, 79, 71], some (Str.mk #[76, 79, 71]), Str.mk #[49], Str.mk #[49]),
  (Str.mk #[68, 76, 79, 71], some (Str.mk #[76, 79, 71]), Str.mk #[50], Str.mk #[50]),
  (Str.mk #[67, 76, 79, 71], some (Str.mk #[76, 79, 71]), Str.mk #[51], Str.mk #[51]),
  (Str.mk #[65, 76, 79, 71, 49, 48], some (Str.mk #[76, 79, 71, 49, 48]), Str.mk #[49], Str.mk #[49]),
  (Str.mk #[68, 76, 79, 71, 49, 48], some (Str.mk #[76, 79, 71, 49, 48]), Str.mk #[50], Str.mk #[50]),
  (Str.mk #[68, 83, 73, 78], some (Str.mk #[83, 73, 78]), Str.mk #[50], Str.mk #[50]),
  (Str.mk #[67, 83, 73, 78], some (Str.mk #[83, 73, 78]), Str.mk #[51], Str.mk #[51]),
  (Str.mk #[68, 67, 79, 83], some (Str.mk #[67, 79, 83]), Str.mk #[50], Str.mk #[50]),
  (Str.mk #[67, 67, 79, 83], some (Str.mk #[67, 79, 83]), Str.mk #[51], Str.mk #[51]),
  (Str.mk #[68, 84, 65, 78], some (Str.mk #[84, 65, 78]), Str.mk #[50], Str.mk #[50]),
  (Str.mk #[68, 65, 83, 73, 78], some (Str.mk #[65, 83, 73, 78]), Str.mk #[50], Str.mk #[50]),
  (Str.mk #[68, 65, 67, 79, 83], some (Str.mk #[65, 67, 79, 83]), Str.mk #[50], Str.mk #[50]),
  (Str.mk #[68, 65, 84, 65, 78], some (Str.mk #[65, 84, 65, 78]), Str.mk #[50], Str.mk #[50]),
  (Str.mk #[68, 65, 84, 65, 78, 50], some (Str.mk #[65, 84, 65, 78, 50]), Str.mk #[50], Str.mk #[50]),
  (Str.mk #[68, 83, 73, 78, 72], some (Str.mk #[83, 73, 78, 72]), Str.mk #[50], Str.mk #[50]),
  (Str.mk #[68, 67, 79, 83, 72], some (Str.mk #[67, 79, 83, 72]), Str.mk #[50], Str.mk #[50]),
  (Str.mk #[68, 84, 65, 78, 72], some (Str.mk #[84, 65, 78, 72]), Str.mk #[50], Str.mk #[50]),
  (Str.mk #[76, 71, 69], some (Str.mk #[76, 71, 69]), Str.mk #[53], Str.mk #[52]),
  (Str.mk #[76, 71, 84], some (Str.mk #[76, 71, 84]), Str.mk #[53], Str.mk #[52]),
  (Str.mk #[76, 76, 69], some (Str.mk #[76, 76, 69]), Str.mk #[53], Str.mk #[52]),
  (Str.mk #[76, 76, 84], some (Str.mk #[76, 76, 84]), Str.mk #[53], Str.mk #[52])]
noncomputable def rowParts (p : Str × Option Str × Str × Str) : List Str := match p.2.1 with
  | none => [p.1, p.2.2.1, p.2.2.2]
  | some o => [p.1, o, p.2.2.1, p.2.2.2]
noncomputable def rowStrs : List Str := [
  Str.mk #[73, 78, 84, 58, 48, 49, 50, 51, 58, 48],
  Str.mk #[82, 69, 65, 76, 58, 48, 49, 50, 51, 58, 49],
  Str.mk #[68, 66, 76, 69, 58, 48, 49, 50, 51, 58, 50],
  Str.mk #[67, 77, 80, 76, 88, 58, 48, 49, 50, 51, 58, 51],
  Str.mk #[65, 73, 78, 84, 58, 49, 50, 58, 61],
  Str.mk #[65, 78, 73, 78, 84, 58, 49, 50, 58, 61],
  Str.mk #[78, 73, 78, 84, 58, 49, 50, 58, 48],
  Str.mk #[65, 66, 83, 58, 48, 49, 50, 51, 58, 61],
  Str.mk #[77, 79, 68, 58, 48, 49, 50, 58, 61],
  Str.mk #[83, 73, 71, 78, 58, 48, 49, 50, 58, 61],
  Str.mk #[68, 73, 77, 58, 48, 49, 50, 58, 61],
  Str.mk #[77, 65, 88, 58, 48, 49, 50, 58, 61],
  Str.mk #[77, 73, 78, 58, 48, 49, 50, 58, 61],
  Str.mk #[83, 81, 82, 84, 58, 49, 50, 51, 58, 61],
  Str.mk #[69, 88, 80, 58, 49, 50, 51, 58, 61],
  Str.mk #[76, 79, 71, 58, 49, 50, 51, 58, 61],
  Str.mk #[76, 79, 71, 49, 48, 58, 49, 50, 58, 61],
  Str.mk #[83, 73, 78, 58, 49, 50, 51, 58, 61],
  Str.mk #[67, 79, 83, 58, 49, 50, 51, 58, 61],
  Str.mk #[84, 65, 78, 58, 49, 50, 58, 61],
  Str.mk #[65, 83, 73, 78, 58, 49, 50, 58, 61],
  Str.mk #[65, 67, 79, 83, 58, 49, 50, 58, 61],
  Str.mk #[65, 84, 65, 78, 58, 49, 50, 58, 61],
  Str.mk #[65, 84, 65, 78, 50, 58, 49, 50, 58, 61],
  Str.mk #[83, 73, 78, 72, 58, 49, 50, 58, 61],
  Str.mk #[67, 79, 83, 72, 58, 49, 50, 58, 61],
  Str.mk #[84, 65, 78, 72, 58, 49, 50, 58, 61],
  Str.mk #[73, 70, 73, 88, 58, 73, 78, 84, 58, 49, 58, 48],
  Str.mk #[73, 68, 73, 78, 84, 58, 73, 78, 84, 58, 50, 58, 48],
  Str.mk #[70, 76, 79, 65, 84, 58, 82, 69, 65, 76, 58, 48, 58, 49],
  Str.mk #[83, 78, 71, 76, 58, 82, 69, 65, 76, 58, 50, 58, 49],
  Str.mk #[65, 77, 65, 88, 48, 58, 65, 77, 65, 88, 48, 58, 48, 58, 49],
  Str.mk #[77, 65, 88, 49, 58, 77, 65, 88, 49, 58, 49, 58, 48],
  Str.mk #[65, 77, 73, 78, 48, 58, 65, 77, 73, 78, 48, 58, 48, 58, 49],
  Str.mk #[77, 73, 78, 49, 58, 77, 73, 78, 49, 58, 49, 58, 48],
  Str.mk #[73, 67, 72, 65, 82, 58, 73, 67, 72, 65, 82, 58, 53, 58, 48],
  Str.mk #[67, 72, 65, 82, 58, 67, 72, 65, 82, 58, 48, 58, 53],
  Str.mk #[68, 73, 78, 84, 58, 65, 73, 78, 84, 58, 50, 58, 50],
  Str.mk #[68, 78, 73, 78, 84, 58, 65, 78, 73, 78, 84, 58, 50, 58, 50],
  Str.mk #[73, 68, 78, 73, 78, 84, 58, 78, 73, 78, 84, 58, 50, 58, 48],
  Str.mk #[73, 65, 66, 83, 58, 65, 66, 83, 58, 48, 58, 48],
  Str.mk #[68, 65, 66, 83, 58, 65, 66, 83, 58, 50, 58, 50],
  Str.mk #[67, 65, 66, 83, 58, 65, 66, 83, 58, 51, 58, 49],
  Str.mk #[65, 77, 79, 68, 58, 77, 79, 68, 58, 49, 58, 49],
  Str.mk #[68, 77, 79, 68, 58, 77, 79, 68, 58, 50, 58, 50],
  Str.mk #[73, 83, 73, 71, 78, 58, 83, 73, 71, 78, 58, 48, 58, 48],
  Str.mk #[68, 83, 73, 71, 78, 58, 83, 73, 71, 78, 58, 50, 58, 50],
  Str.mk #[73, 68, 73, 77, 58, 68, 73, 77, 58, 48, 58, 48],
  Str.mk #[68, 68, 73, 77, 58, 68, 73, 77, 58, 50, 58, 50],
  Str.mk #[68, 80, 82, 79, 68, 58, 68, 80, 82, 79, 68, 58, 49, 58, 50],
  Str.mk #[77, 65, 88, 48, 58, 77, 65, 88, 58, 48, 58, 48],
  Str.mk #[65, 77, 65, 88, 49, 58, 77, 65, 88, 58, 49, 58, 49],
  Str.mk #[68, 77, 65, 88, 49, 58, 77, 65, 88, 58, 50, 58, 50],
  Str.mk #[77, 73, 78, 48, 58, 77, 73, 78, 58, 48, 58, 48],
  Str.mk #[65, 77, 73, 78, 49, 58, 77, 73, 78, 58, 49, 58, 49],
  Str.mk #[68, 77, 73, 78, 49, 58, 77, 73, 78, 58, 50, 58, 50],
  Str.mk #[76, 69, 78, 58, 76, 69, 78, 58, 53, 58, 48],
  Str.mk #[73, 78, 68, 69, 88, 58, 73, 78, 68, 69, 88, 58, 53, 58, 48],
  Str.mk #[65, 73, 77, 65, 71, 58, 65, 73, 77, 65, 71, 58, 51, 58, 49],
  Str.mk #[67, 79, 78, 74, 71, 58, 67, 79, 78, 74, 71, 58, 51, 58, 51],
  Str.mk #[68, 83, 81, 82, 84, 58, 83, 81, 82, 84, 58, 50, 58, 50],
  Str.mk #[67, 83, 81, 82, 84, 58, 83, 81, 82, 84, 58, 51, 58, 51],
  Str.mk #[68, 69, 88, 80, 58, 69, 88, 80, 58, 50, 58, 50],
  Str.mk #[67, 69, 88, 80, 58, 69, 88, 80, 58, 51, 58, 51],
  Str.mk #[65, 76, 79, 71, 58, 76, 79, 71, 58, 49, 58, 49],
  Str.mk #[68, 76, 79, 71, 58, 76, 79, 71, 58, 50, 58, 50],
  Str.mk #[67, 76, 79, 71, 58, 76, 79, 71, 58, 51, 58, 51],
  Str.mk #[65, 76, 79, 71, 49, 48, 58, 76, 79, 71, 49, 48, 58, 49, 58, 49],
  Str.mk #[68, 76, 79, 71, 49, 48, 58, 76, 79, 71, 49, 48, 58, 50, 58, 50],
  Str.mk #[68, 83, 73, 78, 58, 83, 73, 78, 58, 50, 58, 50],
  Str.mk #[67, 83, 73, 78, 58, 83, 73, 78, 58, 51, 58, 51],
  Str.mk #[68, 67, 79, 83, 58, 67, 79, 83, 58, 50, 58, 50],
  Str.mk #[67, 67, 79, 83, 58, 67, 79, 83, 58, 51, 58, 51],
  Str.mk #[68, 84, 65, 78, 58, 84, 65, 78, 58, 50, 58, 50],
  Str.mk #[68, 65, 83, 73, 78, 58, 65, 83, 73, 78, 58, 50, 58, 50],
  Str.mk #[68, 65, 67, 79, 83, 58, 65, 67, 79, 83, 58, 50, 58, 50],
  Str.mk #[68, 65, 84, 65, 78, 58, 65, 84, 65, 78, 58, 50, 58, 50],
  Str.mk #[68, 65, 84, 65, 78, 50, 58, 65, 84, 65, 78, 50, 58, 50, 58, 50],
  Str.mk #[68, 83, 73, 78, 72, 58, 83, 73, 78, 72, 58, 50, 58, 50],
  Str.mk #[68, 67, 79, 83, 72, 58, 67, 79, 83, 72, 58, 50, 58, 50],
  Str.mk #[68, 84, 65, 78, 72, 58, 84, 65, 78, 72, 58, 50, 58, 50],
  Str.mk #[76, 71, 69, 58, 76, 71, 69, 58, 53, 58, 52],
  Str.mk #[76, 71, 84, 58, 76, 71, 84, 58, 53, 58, 52],
  Str.mk #[76, 76, 69, 58, 76, 76, 69, 58, 53, 58, 52],
  Str.mk #[76, 76, 84, 58, 76, 76, 84, 58, 53, 58, 52]]
theorem split_all : Txt.split allText (Str.mk #[32]) = rowStrs := split_is (by decide +kernel)
theorem cut_rows : rowStrs.map (fun r => cut 58 r.cps.toList) = rowTab.map (fun p => (rowParts p).map (·.cps.toList)) := by decide +kernel
theorem len_rows : ∀ r ∈ rowStrs, r.length + 2 ≤ sizeLine := by decide +kernel
theorem find_rows : ∀ p ∈ rowTab, rowTab.find? (fun q => q.1 == p.1) = some p := by decide +kernel
theorem row_mem {r : Str} (h : r ∈ rowStrs) : ∃ p ∈ rowTab, Txt.split r (Str.mk #[58]) = rowParts p := by
  have k : cut 58 r.cps.toList ∈ rowStrs.map (fun r => cut 58 r.cps.toList) := List.mem_map.mpr ⟨r, h, rfl⟩
  rw [cut_rows] at k
  obtain ⟨p, hp, e⟩ := List.mem_map.mp k
  exact ⟨p, hp, split_is e.symm⟩

section
variable {prog : Program} {w : World} {A : Around} {E : Value → Shared → Prop} {s : Shared} {h₀ : Heap} {env : Env} {target : Expr} {body : List Stmt} {Q : Flow → Shared → Prop}
theorem unrEnd_mono {L : Addr} {s₁ : Shared} {its : List (Addr × Obj)} {r r' : (Str → Option Value) → List (Addr × Obj) → Prop} (h : ∀ m n, r m n → r' m n) (f : Flow) (s₂ : Shared) (H : UnrPostW h₀ L s₁ its r Q f s₂) : UnrPostW h₀ L s₁ its r' Q f s₂ := by
  cases f with
  | ret v => exact H
  | brk => exact H
  | _ =>
    obtain ⟨h', tk, m', n', a, b, c, d, e⟩ := H
    exact ⟨h', tk, m', n', a, b, c, d, h _ _ e⟩
theorem rest_rows {J : Option Value → Option Value → Str → Option Value} {hit : Str → Prop} {I : Addr} {keep news : List (Addr × Obj)} (hsub : SubL keep news) :
    ∀ (l : List (Str × Tok)) (all : List Str), (∀ r ∈ l.map (·.1), r ∈ all) → (∀ r ∈ all, r ∉ l.map (·.1) → ¬ hit r) →
    (∀ r tk op or h t, r ∈ all → Fr h₀ env.locals h (J op or) → ∀ o : Obj, o.cls = .type "list_iterator" → News h₀ env.locals h ((I, o) :: news) →
      wpAny (model prog w) A (assign target env (.str r tk)) (fun _ s₂ => wpAny (model prog w) A (execs body env) (UnrPostW h₀ env.locals { s with heap := h, toks := t } [(I, o)] (fun m' n' => ¬ hit r ∧ n' = news ∧ ∃ a b, m' = J a b) Q) E s₂) E { s with heap := h, toks := t }) →
    (∀ op or h t, (∀ r ∈ all, ¬ hit r) → Fr h₀ env.locals h (J op or) → News h₀ env.locals h news → Q .next { s with heap := h, toks := t }) →
    ∀ op or, ItemsRest prog w A E h₀ env target body Q s [(I, "list_iterator")] keep ((strValues l).map .val) (J op or) news
  | [], all, _, hno, _, fin, op, or => ItemsRest.zero fun h t F N => fin op or h t (fun r hr => hno r hr (fun x => nomatch x)) F N
  | (r, tk) :: l, all, hin, hno, turn, fin, op, or => ItemsRest.val fun h t F => AllObj.cons fun o ho => AllObj.nil fun N => by
    refine wpAny_mono (turn r tk op or h t (hin r (.head _)) F o ho N) (fun _ s₂ h₂ => wpAny_mono h₂ (fun f s₃ h₃ => unrEnd_mono (fun m' n' k => ?_) f s₃ h₃) fun _ _ e => e) fun _ _ e => e
    obtain ⟨hn, rfl, a, b, rfl⟩ := k
    exact ⟨hsub, rest_rows hsub l all (fun q hq => hin q (.tail _ hq)) (fun q hq hql => if e : q = r then e ▸ hn else hno q hq (fun hm => by
      rcases List.mem_cons.mp hm with x | x
      · exact e x
      · exact hql x)) turn fin a b⟩
end
end

section
open PySem PySem.W PyProof.Rows PySem.Calls
theorem kw_D2_1 : True := by
  k_with_none
  k_with "m:exec Raise some none" =>
    (k_here; (with_reducible show wpAny _ _ (exec (Stmt.Raise (some (Expr.Call (Expr.Name ("CheckFault" : Str) _) _ _ _)) none _) _) _ _ _); refine Raise_thrown rfl ?_)
  k_with "m:call ref" =>
    (k_here; (with_reducible show wpAny _ _ (call (Value.ref 44) [Value.str _ _]) _ _ _); k_dflt (refine' ct_fault ?kwB ?kwF ?kwX ?kwT ?kwhk ?kwhd ?kwhu ?kwN ?_; (case kwB => k_asm); (case kwF => k_asm); (case kwX => k_asm); (case kwT => k_asm); (case kwN => k_asm); (case kwhk => first | exact rfl | assumption); (case kwhd => first | omega | ((try simp only [depth_under_make, depth_under_kw, depth_in1, depth_deeper, depth_caller]); (try dsimp only [ktrTop]); omega)); (case kwhu => first | omega | ((try simp only [units_in1, units_deeper, Around.mark_units, units_caller]); (try dsimp only [ktrTop]); omega)); k_whole); intro e' ta' h' tk' fa' F' N'; (obtain ⟨dd', sl', he'⟩ := fa'.there))
  k_with "m:Thrown" =>
    (refine ⟨_, _, _, _, rfl, by k_in, by kts_isx, by assumption, ?_⟩)
  k_with "m:leaving ref" =>
    (k_here; first
      | ((rename FaultK _ _ _ _ _ _ _ _ => fa9); refine' leave_fault ?kwK fa9 ?kwF ?kwN ?_ rfl; (case kwK => assumption); (case kwF => assumption); (case kwN => k_asm); k_whole; intro h' S' R' U'; (try dsimp only at S' R' U' ⊢))
      | (refine' leave_onS ?kwk1 ?kwk2 ?kwk3 ?kwk4 ?_; (case kwk3 => assumption); (case kwk2 => assumption); (case kwk1 => assumption); (case kwk4 => assumption); k_whole; intro h' S' R' U'; (try dsimp only at S' R' U' ⊢)))
  k_with "m:call ref" =>
    (k_here; (with_reducible show wpAny _ _ (call (Value.ref 61) _) _ _ _); k_dflt (refine' kgeneric1 nm ?kwB ?kwF ?kwX ?kwT ?kwhk ?kwhd ?kwhu ?kwN ?_; (case kwB => k_asm); (case kwF => k_asm); (case kwX => k_asm); (case kwT => k_asm); (case kwN => k_asm); (case kwhk => first | exact rfl | assumption); (case kwhd => first | omega | ((try simp only [depth_under_make, depth_under_kw, depth_in1, depth_deeper, depth_caller]); (try dsimp only [ktrTop]); omega)); (case kwhu => first | omega | ((try simp only [units_in1, units_deeper, Around.mark_units, units_caller]); (try dsimp only [ktrTop]); omega)); all_goals intros))
  k_with "m:call ref" =>
    (k_here; (with_reducible show wpAny _ _ (call (Value.ref 68) _) _ _ _); k_dflt (refine' kspecific nm ?kwB ?kwF ?kwX ?kwT ?kwhk ?kwhd ?kwhu ?kwN ?_ ?_; (case kwB => k_asm); (case kwF => k_asm); (case kwX => k_asm); (case kwT => k_asm); (case kwN => k_asm); (case kwhk => first | exact rfl | assumption); (case kwhd => first | omega | ((try simp only [depth_under_make, depth_under_kw, depth_in1, depth_deeper, depth_caller]); (try dsimp only [ktrTop]); omega)); (case kwhu => first | omega | ((try simp only [units_in1, units_deeper, Around.mark_units, units_caller]); (try dsimp only [ktrTop]); omega)); all_goals intros))
  k_with "m:compareOp In str ref" =>
    (k_here; k_dflt (refine' in_gen ?kwG ?kwD ?kws ?_ ?_; (case kwD => exact News.get (by k_asm) (by k_mem)); (case kwG => assumption); (case kws => assumption); all_goals intros))
  k_with "m:compareOp In str ref" =>
    (k_here; k_dflt (refine' in_has ?kwH ?kwD ?kws ?_; (case kwD => exact News.get (by k_asm) (by k_mem)); (case kwH => assumption); (case kws => assumption); k_whole; (try dsimp only [Option.isSome_some, Option.isSome_none])))
  k_with "m:subscriptTail" =>
    (k_here; (with_reducible show wpAny _ _ (subscriptTail _ _ (Value.ref _) (Value.str _ _)) _ _ _); k_dflt (refine' item_has ?kwH ?kwD ?_; (case kwD => exact News.get (by k_asm) (by k_mem)); (case kwH => assumption); k_whole))
  k_with "m:getMethod ref" =>
    (k_here; (with_reducible show wpAny _ _ (getMethod (Value.ref _) (Str.ofString "get") _) _ _ _); k_dflt (refine' getMethod_has ?kwH ?kwD ?_; (case kwD => exact News.get (by k_asm) (by k_mem)); (case kwH => assumption); k_whole))
  k_with "m:call builtin:dict.get" =>
    (k_here; (with_reducible show wpAny _ _ (call (Value.builtin "dict.get") [Value.ref _, Value.str _ _]) _ _ _); k_dflt (refine' get_has ?kwH ?kwD ?kws ?_; (case kwD => exact News.get (by k_asm) (by k_mem)); (case kwH => assumption); (case kws => assumption); k_whole; (try dsimp only [Option.getD_some, Option.getD_none])))
  trivial

noncomputable def manyT : List Str := [Str.ofString "MAX", Str.ofString "MIN", Str.ofString "AMAX0", Str.ofString "AMIN0", Str.ofString "MAX1", Str.ofString "MIN1"]
noncomputable def twoT : List Str := [Str.ofString "MOD", Str.ofString "SIGN", Str.ofString "DIM", Str.ofString "DPROD", Str.ofString "ATAN2", Str.ofString "INDEX", Str.ofString "LGE", Str.ofString "LGT", Str.ofString "LLE", Str.ofString "LLT"]
noncomputable def countsP (op : Str) (n : Int) : Bool := if (manyT.any fun x => x == op) = true then decide (1 < n) else if (twoT.any fun x => x == op) = true then n == 2 else n == 1 || ((op == Str.ofString "CMPLX") && n == 2)
section
variable {op : Str} {n : Int}
theorem cp1 (h : (manyT.any fun x => x == op) = true) : countsP op n = decide (1 < n) := if_pos h
theorem cp2 (h : (manyT.any fun x => x == op) = false) (k : (twoT.any fun x => x == op) = true) : countsP op n = (n == 2) := by unfold countsP; rw [h, k]; rfl
theorem cp3 (h : (manyT.any fun x => x == op) = false) (k : (twoT.any fun x => x == op) = false) : countsP op n = (n == 1 || ((op == Str.ofString "CMPLX") && n == 2)) := by unfold countsP; rw [h, k]; rfl
theorem cp4 (h : (manyT.any fun x => x == op) = false) (k : (twoT.any fun x => x == op) = false) (e : n = 1) : countsP op n = (n == 1) := by rw [cp3 h k, e]; rfl
theorem cp5 (h : (manyT.any fun x => x == op) = false) (k : (twoT.any fun x => x == op) = false) (e : n ≠ 1) (c : (op == Str.ofString "CMPLX") = true) : countsP op n = (n == 2) := by rw [cp3 h k, c, beq_eq_false_iff_ne.mpr e]; rfl
theorem cp6 (h : (manyT.any fun x => x == op) = false) (k : (twoT.any fun x => x == op) = false) (e : n ≠ 1) (c : (op == Str.ofString "CMPLX") = false) : countsP op n = (op == Str.ofString "CMPLX") := by rw [cp3 h k, c, beq_eq_false_iff_ne.mpr e]; rfl
end
theorem ct_counts {w : World} {p : Program} {loose : List Str} {mean : ExcName → Option Value} {mg mb : Str → Option Value} {op : Str} {t1 : Tok} {n : Int} {t2 : Tok} {news : List (Addr × Obj)}
  {dp un : Nat} {gd : Option (List Code)} {cn : Str} {cs : Scope} {a : Addr} {ccd : Value} {cl : List (Str × Addr)} {outer : List Env} {A₀ : Around} {base h₀ : Heap} {L : Addr} {m : Str → Option Value} {s : Shared} {Q E : Value → Shared → Prop} :
  Below A₀ base outer h₀ → Fr h₀ L s.heap m → (hd.heap_39 w.params).In h₀ → Top p loose mean mg mb h₀ → cs.kind = .function → dp < 350 → un < 100 → News h₀ L s.heap news →
  (∀ b h' tk', countsP op n = b → Fr h₀ L h' m → News h₀ L h' news → Q (.bool b) { s with heap := h', toks := tk' }) →
  wpAny (model Challenge.rw_no0227_01.row.prog w) (ktrTop dp un gd cn cs L a ccd cl outer) (call (.ref 137) [.str op t1, .int n t2]) Q E s := by
  k_fill
  intro B F X T hk hdp hun N hret
  refine wpAny_call ?_
  k_dflt cell_enter
  k_steps
  all_goals exact hret _ _ _ (by first | exact cp1 (by assumption) | exact cp2 (by assumption) (by assumption) | exact cp4 (by assumption) (by assumption) (by assumption) | exact cp5 (by assumption) (by assumption) (by assumption) (by assumption) | exact cp6 (by assumption) (by assumption) (by assumption) (by assumption)) (by assumption) (cb_drop (by assumption) (by intro p hp; repeat (first | exact hp | refine List.mem_cons_of_mem _ ?_ | refine List.mem_append_left _ ?_)))
end

section
open PySem PySem.W PyProof.Rows PySem.Calls
theorem kw_D3_1 : True := by
  k_with_none
  k_with "m:exec Raise some none" =>
    (k_here; (with_reducible show wpAny _ _ (exec (Stmt.Raise (some (Expr.Call (Expr.Name ("CheckFault" : Str) _) _ _ _)) none _) _) _ _ _); refine Raise_thrown rfl ?_)
  k_with "m:call ref" =>
    (k_here; (with_reducible show wpAny _ _ (call (Value.ref 44) [Value.str _ _]) _ _ _); k_dflt (refine' ct_fault ?kwB ?kwF ?kwX ?kwT ?kwhk ?kwhd ?kwhu ?kwN ?_; (case kwB => k_asm); (case kwF => k_asm); (case kwX => k_asm); (case kwT => k_asm); (case kwN => k_asm); (case kwhk => first | exact rfl | assumption); (case kwhd => first | omega | ((try simp only [depth_under_make, depth_under_kw, depth_in1, depth_deeper, depth_caller]); (try dsimp only [ktrTop]); omega)); (case kwhu => first | omega | ((try simp only [units_in1, units_deeper, Around.mark_units, units_caller]); (try dsimp only [ktrTop]); omega)); k_whole); intro e' ta' h' tk' fa' F' N'; (obtain ⟨dd', sl', he'⟩ := fa'.there))
  k_with "m:Thrown" =>
    (refine ⟨_, _, _, _, rfl, by k_in, by kts_isx, by assumption, ?_⟩)
  k_with "m:leaving ref" =>
    (k_here; first
      | ((rename FaultK _ _ _ _ _ _ _ _ => fa9); refine' leave_fault ?kwK fa9 ?kwF ?kwN ?_ rfl; (case kwK => assumption); (case kwF => assumption); (case kwN => k_asm); k_whole; intro h' S' R' U'; (try dsimp only at S' R' U' ⊢))
      | (refine' leave_onS ?kwk1 ?kwk2 ?kwk3 ?kwk4 ?_; (case kwk3 => assumption); (case kwk2 => assumption); (case kwk1 => assumption); (case kwk4 => assumption); k_whole; intro h' S' R' U'; (try dsimp only at S' R' U' ⊢)))
  k_with "m:call ref" =>
    (k_here; (with_reducible show wpAny _ _ (call (Value.ref 61) _) _ _ _); k_dflt (refine' kgeneric1 nm ?kwB ?kwF ?kwX ?kwT ?kwhk ?kwhd ?kwhu ?kwN ?_; (case kwB => k_asm); (case kwF => k_asm); (case kwX => k_asm); (case kwT => k_asm); (case kwN => k_asm); (case kwhk => first | exact rfl | assumption); (case kwhd => first | omega | ((try simp only [depth_under_make, depth_under_kw, depth_in1, depth_deeper, depth_caller]); (try dsimp only [ktrTop]); omega)); (case kwhu => first | omega | ((try simp only [units_in1, units_deeper, Around.mark_units, units_caller]); (try dsimp only [ktrTop]); omega)); all_goals intros))
  k_with "m:call ref" =>
    (k_here; (with_reducible show wpAny _ _ (call (Value.ref 68) _) _ _ _); k_dflt (refine' kspecific nm ?kwB ?kwF ?kwX ?kwT ?kwhk ?kwhd ?kwhu ?kwN ?_ ?_; (case kwB => k_asm); (case kwF => k_asm); (case kwX => k_asm); (case kwT => k_asm); (case kwN => k_asm); (case kwhk => first | exact rfl | assumption); (case kwhd => first | omega | ((try simp only [depth_under_make, depth_under_kw, depth_in1, depth_deeper, depth_caller]); (try dsimp only [ktrTop]); omega)); (case kwhu => first | omega | ((try simp only [units_in1, units_deeper, Around.mark_units, units_caller]); (try dsimp only [ktrTop]); omega)); all_goals intros))
  k_with "m:compareOp In str ref" =>
    (k_here; k_dflt (refine' in_gen ?kwG ?kwD ?kws ?_ ?_; (case kwD => exact News.get (by k_asm) (by k_mem)); (case kwG => assumption); (case kws => assumption); all_goals intros))
  k_with "m:compareOp In str ref" =>
    (k_here; k_dflt (refine' in_has ?kwH ?kwD ?kws ?_; (case kwD => exact News.get (by k_asm) (by k_mem)); (case kwH => assumption); (case kws => assumption); k_whole; (try dsimp only [Option.isSome_some, Option.isSome_none])))
  k_with "m:subscriptTail" =>
    (k_here; (with_reducible show wpAny _ _ (subscriptTail _ _ (Value.ref _) (Value.str _ _)) _ _ _); k_dflt (refine' item_has ?kwH ?kwD ?_; (case kwD => exact News.get (by k_asm) (by k_mem)); (case kwH => assumption); k_whole))
  k_with "m:getMethod ref" =>
    (k_here; (with_reducible show wpAny _ _ (getMethod (Value.ref _) (Str.ofString "get") _) _ _ _); k_dflt (refine' getMethod_has ?kwH ?kwD ?_; (case kwD => exact News.get (by k_asm) (by k_mem)); (case kwH => assumption); k_whole))
  k_with "m:call builtin:dict.get" =>
    (k_here; (with_reducible show wpAny _ _ (call (Value.builtin "dict.get") [Value.ref _, Value.str _ _]) _ _ _); k_dflt (refine' get_has ?kwH ?kwD ?kws ?_; (case kwD => exact News.get (by k_asm) (by k_mem)); (case kwH => assumption); (case kws => assumption); k_whole; (try dsimp only [Option.getD_some, Option.getD_none])))
  trivial

theorem gp0 : (Str.ofString "INT:0123:0 REAL:0123:1 DBLE:0123:2 CMPLX:0123:3 AINT:12:= ANINT:12:= NINT:12:0 ABS:0123:= MOD:012:= SIGN:012:= ").cps.toList = [73, 78, 84, 58, 48, 49, 50, 51, 58, 48, 32, 82, 69, 65, 76, 58, 48, 49, 50, 51, 58, 49, 32, 68, 66, 76, 69, 58, 48, 49, 50, 51, 58, 50, 32, 67, 77, 80, 76, 88, 58, 48, 49, 50, 51, 58, 51, 32, 65, 73, 78, 84, 58, 49, 50, 58, 61, 32, 65, 78, 73, 78, 84, 58, 49, 50, 58, 61, 32, 78, 73, 78, 84, 58, 49, 50, 58, 48, 32, 65, 66, 83, 58, 48, 49, 50, 51, 58, 61, 32, 77, 79, 68, 58, 48, 49, 50, 58, 61, 32, 83, 73, 71, 78, 58, 48, 49, 50, 58, 61, 32] := by decide +kernel
theorem gp1 : (Str.ofString "DIM:012:= MAX:012:= MIN:012:= SQRT:123:= EXP:123:= LOG:123:= LOG10:12:= SIN:123:= COS:123:= TAN:12:= ASIN:12:= ").cps.toList = [68, 73, 77, 58, 48, 49, 50, 58, 61, 32, 77, 65, 88, 58, 48, 49, 50, 58, 61, 32, 77, 73, 78, 58, 48, 49, 50, 58, 61, 32, 83, 81, 82, 84, 58, 49, 50, 51, 58, 61, 32, 69, 88, 80, 58, 49, 50, 51, 58, 61, 32, 76, 79, 71, 58, 49, 50, 51, 58, 61, 32, 76, 79, 71, 49, 48, 58, 49, 50, 58, 61, 32, 83, 73, 78, 58, 49, 50, 51, 58, 61, 32, 67, 79, 83, 58, 49, 50, 51, 58, 61, 32, 84, 65, 78, 58, 49, 50, 58, 61, 32, 65, 83, 73, 78, 58, 49, 50, 58, 61, 32] := by decide +kernel
theorem gp2 : (Str.ofString "ACOS:12:= ATAN:12:= ATAN2:12:= SINH:12:= COSH:12:= TANH:12:=").cps.toList = [65, 67, 79, 83, 58, 49, 50, 58, 61, 32, 65, 84, 65, 78, 58, 49, 50, 58, 61, 32, 65, 84, 65, 78, 50, 58, 49, 50, 58, 61, 32, 83, 73, 78, 72, 58, 49, 50, 58, 61, 32, 67, 79, 83, 72, 58, 49, 50, 58, 61, 32, 84, 65, 78, 72, 58, 49, 50, 58, 61] := by decide +kernel
theorem sp0 : (Str.ofString "IFIX:INT:1:0 IDINT:INT:2:0 FLOAT:REAL:0:1 SNGL:REAL:2:1 AMAX0:AMAX0:0:1 MAX1:MAX1:1:0 AMIN0:AMIN0:0:1 ").cps.toList = [73, 70, 73, 88, 58, 73, 78, 84, 58, 49, 58, 48, 32, 73, 68, 73, 78, 84, 58, 73, 78, 84, 58, 50, 58, 48, 32, 70, 76, 79, 65, 84, 58, 82, 69, 65, 76, 58, 48, 58, 49, 32, 83, 78, 71, 76, 58, 82, 69, 65, 76, 58, 50, 58, 49, 32, 65, 77, 65, 88, 48, 58, 65, 77, 65, 88, 48, 58, 48, 58, 49, 32, 77, 65, 88, 49, 58, 77, 65, 88, 49, 58, 49, 58, 48, 32, 65, 77, 73, 78, 48, 58, 65, 77, 73, 78, 48, 58, 48, 58, 49, 32] := by decide +kernel
theorem sp1 : (Str.ofString "MIN1:MIN1:1:0 ICHAR:ICHAR:5:0 CHAR:CHAR:0:5 DINT:AINT:2:2 DNINT:ANINT:2:2 IDNINT:NINT:2:0 IABS:ABS:0:0 DABS:ABS:2:2 ").cps.toList = [77, 73, 78, 49, 58, 77, 73, 78, 49, 58, 49, 58, 48, 32, 73, 67, 72, 65, 82, 58, 73, 67, 72, 65, 82, 58, 53, 58, 48, 32, 67, 72, 65, 82, 58, 67, 72, 65, 82, 58, 48, 58, 53, 32, 68, 73, 78, 84, 58, 65, 73, 78, 84, 58, 50, 58, 50, 32, 68, 78, 73, 78, 84, 58, 65, 78, 73, 78, 84, 58, 50, 58, 50, 32, 73, 68, 78, 73, 78, 84, 58, 78, 73, 78, 84, 58, 50, 58, 48, 32, 73, 65, 66, 83, 58, 65, 66, 83, 58, 48, 58, 48, 32, 68, 65, 66, 83, 58, 65, 66, 83, 58, 50, 58, 50, 32] := by decide +kernel
theorem sp2 : (Str.ofString "CABS:ABS:3:1 AMOD:MOD:1:1 DMOD:MOD:2:2 ISIGN:SIGN:0:0 DSIGN:SIGN:2:2 IDIM:DIM:0:0 DDIM:DIM:2:2 DPROD:DPROD:1:2 ").cps.toList = [67, 65, 66, 83, 58, 65, 66, 83, 58, 51, 58, 49, 32, 65, 77, 79, 68, 58, 77, 79, 68, 58, 49, 58, 49, 32, 68, 77, 79, 68, 58, 77, 79, 68, 58, 50, 58, 50, 32, 73, 83, 73, 71, 78, 58, 83, 73, 71, 78, 58, 48, 58, 48, 32, 68, 83, 73, 71, 78, 58, 83, 73, 71, 78, 58, 50, 58, 50, 32, 73, 68, 73, 77, 58, 68, 73, 77, 58, 48, 58, 48, 32, 68, 68, 73, 77, 58, 68, 73, 77, 58, 50, 58, 50, 32, 68, 80, 82, 79, 68, 58, 68, 80, 82, 79, 68, 58, 49, 58, 50, 32] := by decide +kernel
theorem sp3 : (Str.ofString "MAX0:MAX:0:0 AMAX1:MAX:1:1 DMAX1:MAX:2:2 MIN0:MIN:0:0 AMIN1:MIN:1:1 DMIN1:MIN:2:2 LEN:LEN:5:0 INDEX:INDEX:5:0 ").cps.toList = [77, 65, 88, 48, 58, 77, 65, 88, 58, 48, 58, 48, 32, 65, 77, 65, 88, 49, 58, 77, 65, 88, 58, 49, 58, 49, 32, 68, 77, 65, 88, 49, 58, 77, 65, 88, 58, 50, 58, 50, 32, 77, 73, 78, 48, 58, 77, 73, 78, 58, 48, 58, 48, 32, 65, 77, 73, 78, 49, 58, 77, 73, 78, 58, 49, 58, 49, 32, 68, 77, 73, 78, 49, 58, 77, 73, 78, 58, 50, 58, 50, 32, 76, 69, 78, 58, 76, 69, 78, 58, 53, 58, 48, 32, 73, 78, 68, 69, 88, 58, 73, 78, 68, 69, 88, 58, 53, 58, 48, 32] := by decide +kernel
theorem sp4 : (Str.ofString "AIMAG:AIMAG:3:1 CONJG:CONJG:3:3 DSQRT:SQRT:2:2 CSQRT:SQRT:3:3 DEXP:EXP:2:2 CEXP:EXP:3:3 ALOG:LOG:1:1 DLOG:LOG:2:2 ").cps.toList = [65, 73, 77, 65, 71, 58, 65, 73, 77, 65, 71, 58, 51, 58, 49, 32, 67, 79, 78, 74, 71, 58, 67, 79, 78, 74, 71, 58, 51, 58, 51, 32, 68, 83, 81, 82, 84, 58, 83, 81, 82, 84, 58, 50, 58, 50, 32, 67, 83, 81, 82, 84, 58, 83, 81, 82, 84, 58, 51, 58, 51, 32, 68, 69, 88, 80, 58, 69, 88, 80, 58, 50, 58, 50, 32, 67, 69, 88, 80, 58, 69, 88, 80, 58, 51, 58, 51, 32, 65, 76, 79, 71, 58, 76, 79, 71, 58, 49, 58, 49, 32, 68, 76, 79, 71, 58, 76, 79, 71, 58, 50, 58, 50, 32] := by decide +kernel
theorem sp5 : (Str.ofString "CLOG:LOG:3:3 ALOG10:LOG10:1:1 DLOG10:LOG10:2:2 DSIN:SIN:2:2 CSIN:SIN:3:3 DCOS:COS:2:2 CCOS:COS:3:3 DTAN:TAN:2:2 ").cps.toList = [67, 76, 79, 71, 58, 76, 79, 71, 58, 51, 58, 51, 32, 65, 76, 79, 71, 49, 48, 58, 76, 79, 71, 49, 48, 58, 49, 58, 49, 32, 68, 76, 79, 71, 49, 48, 58, 76, 79, 71, 49, 48, 58, 50, 58, 50, 32, 68, 83, 73, 78, 58, 83, 73, 78, 58, 50, 58, 50, 32, 67, 83, 73, 78, 58, 83, 73, 78, 58, 51, 58, 51, 32, 68, 67, 79, 83, 58, 67, 79, 83, 58, 50, 58, 50, 32, 67, 67, 79, 83, 58, 67, 79, 83, 58, 51, 58, 51, 32, 68, 84, 65, 78, 58, 84, 65, 78, 58, 50, 58, 50, 32] := by decide +kernel
theorem sp6 : (Str.ofString "DASIN:ASIN:2:2 DACOS:ACOS:2:2 DATAN:ATAN:2:2 DATAN2:ATAN2:2:2 DSINH:SINH:2:2 DCOSH:COSH:2:2 DTANH:TANH:2:2 ").cps.toList = [68, 65, 83, 73, 78, 58, 65, 83, 73, 78, 58, 50, 58, 50, 32, 68, 65, 67, 79, 83, 58, 65, 67, 79, 83, 58, 50, 58, 50, 32, 68, 65, 84, 65, 78, 58, 65, 84, 65, 78, 58, 50, 58, 50, 32, 68, 65, 84, 65, 78, 50, 58, 65, 84, 65, 78, 50, 58, 50, 58, 50, 32, 68, 83, 73, 78, 72, 58, 83, 73, 78, 72, 58, 50, 58, 50, 32, 68, 67, 79, 83, 72, 58, 67, 79, 83, 72, 58, 50, 58, 50, 32, 68, 84, 65, 78, 72, 58, 84, 65, 78, 72, 58, 50, 58, 50, 32] := by decide +kernel
theorem sp7 : (Str.ofString "LGE:LGE:5:4 LGT:LGT:5:4 LLE:LLE:5:4 LLT:LLT:5:4").cps.toList = [76, 71, 69, 58, 76, 71, 69, 58, 53, 58, 52, 32, 76, 71, 84, 58, 76, 71, 84, 58, 53, 58, 52, 32, 76, 76, 69, 58, 76, 76, 69, 58, 53, 58, 52, 32, 76, 76, 84, 58, 76, 76, 84, 58, 53, 58, 52] := by decide +kernel
theorem str_list {x y : Str} (h : x.cps.toList = y.cps.toList) : x = y := by cases x; cases y; exact congrArg Str.mk (Array.toList_inj.mp h)
theorem gtext_eq : Str.ofString "INT:0123:0 REAL:0123:1 DBLE:0123:2 CMPLX:0123:3 AINT:12:= ANINT:12:= NINT:12:0 ABS:0123:= MOD:012:= SIGN:012:= " ++ Str.ofString "DIM:012:= MAX:012:= MIN:012:= SQRT:123:= EXP:123:= LOG:123:= LOG10:12:= SIN:123:= COS:123:= TAN:12:= ASIN:12:= " ++ Str.ofString "ACOS:12:= ATAN:12:= ATAN2:12:= SINH:12:= COSH:12:= TANH:12:=" = genText := str_list (by simp only [Str.cps_append, Array.toList_append, gp0, gp1, gp2]; rfl)
theorem stext_eq : Str.ofString "IFIX:INT:1:0 IDINT:INT:2:0 FLOAT:REAL:0:1 SNGL:REAL:2:1 AMAX0:AMAX0:0:1 MAX1:MAX1:1:0 AMIN0:AMIN0:0:1 " ++ Str.ofString "MIN1:MIN1:1:0 ICHAR:ICHAR:5:0 CHAR:CHAR:0:5 DINT:AINT:2:2 DNINT:ANINT:2:2 IDNINT:NINT:2:0 IABS:ABS:0:0 DABS:ABS:2:2 " ++ Str.ofString "CABS:ABS:3:1 AMOD:MOD:1:1 DMOD:MOD:2:2 ISIGN:SIGN:0:0 DSIGN:SIGN:2:2 IDIM:DIM:0:0 DDIM:DIM:2:2 DPROD:DPROD:1:2 " ++ Str.ofString "MAX0:MAX:0:0 AMAX1:MAX:1:1 DMAX1:MAX:2:2 MIN0:MIN:0:0 AMIN1:MIN:1:1 DMIN1:MIN:2:2 LEN:LEN:5:0 INDEX:INDEX:5:0 " ++ Str.ofString "AIMAG:AIMAG:3:1 CONJG:CONJG:3:3 DSQRT:SQRT:2:2 CSQRT:SQRT:3:3 DEXP:EXP:2:2 CEXP:EXP:3:3 ALOG:LOG:1:1 DLOG:LOG:2:2 " ++ Str.ofString "CLOG:LOG:3:3 ALOG10:LOG10:1:1 DLOG10:LOG10:2:2 DSIN:SIN:2:2 CSIN:SIN:3:3 DCOS:COS:2:2 CCOS:COS:3:3 DTAN:TAN:2:2 " ++ Str.ofString "DASIN:ASIN:2:2 DACOS:ACOS:2:2 DATAN:ATAN:2:2 DATAN2:ATAN2:2:2 DSINH:SINH:2:2 DCOSH:COSH:2:2 DTANH:TANH:2:2 " ++ Str.ofString "LGE:LGE:5:4 LGT:LGT:5:4 LLE:LLE:5:4 LLT:LLT:5:4" = specText := str_list (by simp only [Str.cps_append, Array.toList_append, sp0, sp1, sp2, sp3, sp4, sp5, sp6, sp7]; rfl)
theorem atext_eq : genText ++ Str.ofString " " ++ specText = allText := str_list (by simp only [Str.cps_append, Array.toList_append]; rfl)

theorem ct_gtext {w : World} {p : Program} {loose : List Str} {mean : ExcName → Option Value} {mg mb : Str → Option Value} {news : List (Addr × Obj)}
  {dp un : Nat} {gd : Option (List Code)} {cn : Str} {cs : Scope} {a : Addr} {ccd : Value} {cl : List (Str × Addr)} {outer : List Env} {A₀ : Around} {base h₀ : Heap} {L : Addr} {m : Str → Option Value} {s : Shared} {Q E : Value → Shared → Prop} :
  Below A₀ base outer h₀ → Fr h₀ L s.heap m → (hd.heap_39 w.params).In h₀ → Top p loose mean mg mb h₀ → cs.kind = .function → dp < 350 → un < 100 → News h₀ L s.heap news →
  (∀ t h' tk', Fr h₀ L h' m → News h₀ L h' news → Q (.str genText t) { s with heap := h', toks := tk' }) →
  wpAny (model Challenge.rw_no0227_01.row.prog w) (ktrTop dp un gd cn cs L a ccd cl outer) (call (.ref 115) []) Q E s := by
  k_fill
  intro B F X T hk hdp hun N hret
  refine wpAny_call ?_
  k_dflt cell_enter
  k_steps
  all_goals
    have e : ∀ x t sh, x = genText → Q (.str genText t) sh → Q (.str x t) sh := fun x t sh e h => e ▸ h
    exact e _ _ _ gtext_eq (hret _ _ _ (by assumption) (by assumption))

theorem ct_stext {w : World} {p : Program} {loose : List Str} {mean : ExcName → Option Value} {mg mb : Str → Option Value} {news : List (Addr × Obj)}
  {dp un : Nat} {gd : Option (List Code)} {cn : Str} {cs : Scope} {a : Addr} {ccd : Value} {cl : List (Str × Addr)} {outer : List Env} {A₀ : Around} {base h₀ : Heap} {L : Addr} {m : Str → Option Value} {s : Shared} {Q E : Value → Shared → Prop} :
  Below A₀ base outer h₀ → Fr h₀ L s.heap m → (hd.heap_39 w.params).In h₀ → Top p loose mean mg mb h₀ → cs.kind = .function → dp < 350 → un < 100 → News h₀ L s.heap news →
  (∀ t h' tk', Fr h₀ L h' m → News h₀ L h' news → Q (.str specText t) { s with heap := h', toks := tk' }) →
  wpAny (model Challenge.rw_no0227_01.row.prog w) (ktrTop dp un gd cn cs L a ccd cl outer) (call (.ref 122) []) Q E s := by
  k_fill
  intro B F X T hk hdp hun N hret
  refine wpAny_call ?_
  k_dflt cell_enter
  k_steps
  all_goals
    have e : ∀ x t sh, x = specText → Q (.str specText t) sh → Q (.str x t) sh := fun x t sh e h => e ▸ h
    exact e _ _ _ stext_eq (hret _ _ _ (by assumption) (by assumption))
end

section
open PySem PySem.W PyProof.Rows PySem.Calls
theorem kw_D4_1 : True := by
  k_with_none
  k_with "m:exec Raise some none" =>
    (k_here; (with_reducible show wpAny _ _ (exec (Stmt.Raise (some (Expr.Call (Expr.Name ("CheckFault" : Str) _) _ _ _)) none _) _) _ _ _); refine Raise_thrown rfl ?_)
  k_with "m:call ref" =>
    (k_here; (with_reducible show wpAny _ _ (call (Value.ref 44) [Value.str _ _]) _ _ _); k_dflt (refine' ct_fault ?kwB ?kwF ?kwX ?kwT ?kwhk ?kwhd ?kwhu ?kwN ?_; (case kwB => k_asm); (case kwF => k_asm); (case kwX => k_asm); (case kwT => k_asm); (case kwN => k_asm); (case kwhk => first | exact rfl | assumption); (case kwhd => first | omega | ((try simp only [depth_under_make, depth_under_kw, depth_in1, depth_deeper, depth_caller]); (try dsimp only [ktrTop]); omega)); (case kwhu => first | omega | ((try simp only [units_in1, units_deeper, Around.mark_units, units_caller]); (try dsimp only [ktrTop]); omega)); k_whole); intro e' ta' h' tk' fa' F' N'; (obtain ⟨dd', sl', he'⟩ := fa'.there))
  k_with "m:Thrown" =>
    (refine ⟨_, _, _, _, rfl, by k_in, by kts_isx, by assumption, ?_⟩)
  k_with "m:leaving ref" =>
    (k_here; first
      | ((rename FaultK _ _ _ _ _ _ _ _ => fa9); refine' leave_fault ?kwK fa9 ?kwF ?kwN ?_ rfl; (case kwK => assumption); (case kwF => assumption); (case kwN => k_asm); k_whole; intro h' S' R' U'; (try dsimp only at S' R' U' ⊢))
      | (refine' leave_onS ?kwk1 ?kwk2 ?kwk3 ?kwk4 ?_; (case kwk3 => assumption); (case kwk2 => assumption); (case kwk1 => assumption); (case kwk4 => assumption); k_whole; intro h' S' R' U'; (try dsimp only at S' R' U' ⊢)))
  k_with "m:call ref" =>
    (k_here; (with_reducible show wpAny _ _ (call (Value.ref 61) _) _ _ _); k_dflt (refine' kgeneric1 nm ?kwB ?kwF ?kwX ?kwT ?kwhk ?kwhd ?kwhu ?kwN ?_; (case kwB => k_asm); (case kwF => k_asm); (case kwX => k_asm); (case kwT => k_asm); (case kwN => k_asm); (case kwhk => first | exact rfl | assumption); (case kwhd => first | omega | ((try simp only [depth_under_make, depth_under_kw, depth_in1, depth_deeper, depth_caller]); (try dsimp only [ktrTop]); omega)); (case kwhu => first | omega | ((try simp only [units_in1, units_deeper, Around.mark_units, units_caller]); (try dsimp only [ktrTop]); omega)); all_goals intros))
  k_with "m:call ref" =>
    (k_here; (with_reducible show wpAny _ _ (call (Value.ref 68) _) _ _ _); k_dflt (refine' kspecific nm ?kwB ?kwF ?kwX ?kwT ?kwhk ?kwhd ?kwhu ?kwN ?_ ?_; (case kwB => k_asm); (case kwF => k_asm); (case kwX => k_asm); (case kwT => k_asm); (case kwN => k_asm); (case kwhk => first | exact rfl | assumption); (case kwhd => first | omega | ((try simp only [depth_under_make, depth_under_kw, depth_in1, depth_deeper, depth_caller]); (try dsimp only [ktrTop]); omega)); (case kwhu => first | omega | ((try simp only [units_in1, units_deeper, Around.mark_units, units_caller]); (try dsimp only [ktrTop]); omega)); all_goals intros))
  k_with "m:compareOp In str ref" =>
    (k_here; k_dflt (refine' in_gen ?kwG ?kwD ?kws ?_ ?_; (case kwD => exact News.get (by k_asm) (by k_mem)); (case kwG => assumption); (case kws => assumption); all_goals intros))
  k_with "m:compareOp In str ref" =>
    (k_here; k_dflt (refine' in_has ?kwH ?kwD ?kws ?_; (case kwD => exact News.get (by k_asm) (by k_mem)); (case kwH => assumption); (case kws => assumption); k_whole; (try dsimp only [Option.isSome_some, Option.isSome_none])))
  k_with "m:subscriptTail" =>
    (k_here; (with_reducible show wpAny _ _ (subscriptTail _ _ (Value.ref _) (Value.str _ _)) _ _ _); k_dflt (refine' item_has ?kwH ?kwD ?_; (case kwD => exact News.get (by k_asm) (by k_mem)); (case kwH => assumption); k_whole))
  k_with "m:getMethod ref" =>
    (k_here; (with_reducible show wpAny _ _ (getMethod (Value.ref _) (Str.ofString "get") _) _ _ _); k_dflt (refine' getMethod_has ?kwH ?kwD ?_; (case kwD => exact News.get (by k_asm) (by k_mem)); (case kwH => assumption); k_whole))
  k_with "m:call builtin:dict.get" =>
    (k_here; (with_reducible show wpAny _ _ (call (Value.builtin "dict.get") [Value.ref _, Value.str _ _]) _ _ _); k_dflt (refine' get_has ?kwH ?kwD ?kws ?_; (case kwD => exact News.get (by k_asm) (by k_mem)); (case kwH => assumption); (case kws => assumption); k_whole; (try dsimp only [Option.getD_some, Option.getD_none])))
  trivial

theorem kw_D4_2 : True := by
  k_with "m:call ref" =>
    (k_here; (with_reducible show wpAny _ _ (call (Value.ref 115) _) _ _ _); k_dflt (refine' ct_gtext ?kwB ?kwF ?kwX ?kwT ?kwhk ?kwhd ?kwhu ?kwN ?_; (case kwB => k_asm); (case kwF => k_asm); (case kwX => k_asm); (case kwN => k_asm); (case kwT => k_asm); (case kwhk => first | exact rfl | assumption); (case kwhd => first | omega | ((try simp only [depth_under_make, depth_under_kw, depth_in1, depth_deeper, depth_caller]); (try dsimp only [ktrTop]); omega)); (case kwhu => first | omega | ((try simp only [units_in1, units_deeper, Around.mark_units, units_caller]); (try dsimp only [ktrTop]); omega)); all_goals intros))
  trivial

theorem kw_D4_3 : True := by
  k_with "m:call ref" =>
    (k_here; (with_reducible show wpAny _ _ (call (Value.ref 122) _) _ _ _); k_dflt (refine' ct_stext ?kwB ?kwF ?kwX ?kwT ?kwhk ?kwhd ?kwhu ?kwN ?_; (case kwB => k_asm); (case kwF => k_asm); (case kwX => k_asm); (case kwN => k_asm); (case kwT => k_asm); (case kwhk => first | exact rfl | assumption); (case kwhd => first | omega | ((try simp only [depth_under_make, depth_under_kw, depth_in1, depth_deeper, depth_caller]); (try dsimp only [ktrTop]); omega)); (case kwhu => first | omega | ((try simp only [units_in1, units_deeper, Around.mark_units, units_caller]); (try dsimp only [ktrTop]); omega)); all_goals intros))
  trivial

theorem counts_pos {op : Str} {n : Int} (h : countsP op n = true) : 1 ≤ n := by
  unfold countsP at h
  split at h
  · have := of_decide_eq_true h; omega
  · split at h
    · have := eq_of_beq h; omega
    · simp only [Bool.or_eq_true, Bool.and_eq_true, beq_iff_eq] at h; omega
theorem ct_counts2 {w : World} {p : Program} {loose : List Str} {mean : ExcName → Option Value} {mg mb : Str → Option Value} {op : Str} {t1 : Tok} {n : Int} {t2 : Tok} {news : List (Addr × Obj)}
  {dp un : Nat} {gd : Option (List Code)} {cn : Str} {cs : Scope} {a : Addr} {ccd : Value} {cl : List (Str × Addr)} {outer : List Env} {A₀ : Around} {base h₀ : Heap} {L : Addr} {m : Str → Option Value} {s : Shared} {Q E : Value → Shared → Prop} :
  Below A₀ base outer h₀ → Fr h₀ L s.heap m → (hd.heap_39 w.params).In h₀ → Top p loose mean mg mb h₀ → cs.kind = .function → dp < 350 → un < 100 → News h₀ L s.heap news →
  (∀ h' tk', countsP op n = true → 1 ≤ n → Fr h₀ L h' m → News h₀ L h' news → Q (.bool true) { s with heap := h', toks := tk' }) →
  (∀ h' tk', countsP op n = false → Fr h₀ L h' m → News h₀ L h' news → Q (.bool false) { s with heap := h', toks := tk' }) →
  wpAny (model Challenge.rw_no0227_01.row.prog w) (ktrTop dp un gd cn cs L a ccd cl outer) (call (.ref 137) [.str op t1, .int n t2]) Q E s :=
  fun B F X T hk hdp hun N hT hF => ct_counts B F X T hk hdp hun N fun b h' tk' e F' N' => by
    cases b with
    | true => exact hT h' tk' e (counts_pos e) F' N'
    | false => exact hF h' tk' e F' N'

theorem kw_D4_4 : True := by
  k_with "m:call ref" =>
    (k_here; (with_reducible show wpAny _ _ (call (Value.ref 137) _) _ _ _); k_dflt (refine' ct_counts2 ?kwB ?kwF ?kwX ?kwT ?kwhk ?kwhd ?kwhu ?kwN ?_ ?_; (case kwB => k_asm); (case kwF => k_asm); (case kwX => k_asm); (case kwN => k_asm); (case kwT => k_asm); (case kwhk => first | exact rfl | assumption); (case kwhd => first | omega | ((try simp only [depth_under_make, depth_under_kw, depth_in1, depth_deeper, depth_caller]); (try dsimp only [ktrTop]); omega)); (case kwhu => first | omega | ((try simp only [units_in1, units_deeper, Around.mark_units, units_caller]); (try dsimp only [ktrTop]); omega)); all_goals intros))
  trivial

theorem sz1 : genText.length + (Str.ofString " ").length ≤ sizeLine := by decide +kernel
theorem sz2 : (genText ++ Str.ofString " ").length + specText.length ≤ sizeLine := by rw [Str.length_append]; decide +kernel
theorem sz3 : (genText ++ Str.ofString " " ++ specText).length + 2 ≤ sizeLine := by rw [Str.length_append, Str.length_append]; decide +kernel
theorem split_text : Txt.split (genText ++ Str.ofString " " ++ specText) (Str.ofString " ") = rowStrs := by rw [atext_eq]; exact split_all
theorem kw_D4_5 : True := by
  k_with "m:exec For Name Call cons nil" =>
    (k_here; (rename Fr _ _ _ _ => lF'); (with_unfolding_all refine' For_turns lF' ?_; k_whole))
  trivial
theorem add_len {x y : Str} {t u : Tok} {prog : Program} {w : World} {A : Around} {E : Value → Shared → Prop} {s : Shared} {Q : Value → Shared → Prop} (hsz : x.length + y.length ≤ sizeLine) (h : ∀ t' tk, Q (.str (x ++ y) t') { s with toks := tk }) :
    wpAny (model prog w) A (binaryOp .Add (.str x t) (.str y u)) Q E s := PyProof.Rows.add_str h hsz
theorem kw_D4_6 : True := by
  k_with "m:binaryOp Add str str" =>
    (k_here; (with_reducible show wpAny _ _ (binaryOp Operator.Add (Value.str _ _) (Value.str _ _)) _ _ _); k_dflt (refine' add_len ?kwa ?_; (case kwa => first | exact sz1 | exact sz2)); intro _ _)
  k_with "m:call builtin:str.split" =>
    (k_here; (with_reducible show wpAny _ _ (call (Value.builtin "str.split") [Value.str (_ ++ _ ++ _) _, Value.str _ _]) _ _ _); k_dflt (refine' KSpl.split1 ?kwa ?kwb ?kwc ?_ ?kwd; (case kwa => k_asm); (case kwb => k_asm); (case kwc => decide); (case kwd => exact sz3)); intro D' l' h' k' e' a' F' N' l1; (try k_lt l1); replace e' := e'.trans split_text)
  trivial

noncomputable def intOf (x : Str) : Int := (PySem.intText? x).getD 0
theorem int_rows : ∀ p ∈ rowTab, p.2.2.2.length ≤ 640 ∧ ((p.2.2.2 == Str.ofString "=") = false → PySem.intText? p.2.2.2 = some (intOf p.2.2.2)) := by decide +kernel
theorem log_of {ks : List Int} (h : ∀ v ∈ ks, 0 ≤ v ∧ v ≤ 5) : (ks.getD (Int.toNat 0) 0).natAbs.log2 < 1920 := by
  refine shown (N := 6) ?_ ?_ (by decide +kernel)
  · cases ks with
    | nil => decide
    | cons a l => have := h a (.head _); show -6 < a; omega
  · cases ks with
    | nil => decide
    | cons a l => have := h a (.head _); show a < 6; omega
/-- one row's answer -/
noncomputable def dueRow (op lt rs nm : Str) (ks : List Int) : Option (Str × List Int × Int) :=
  if countsP op ks.length = true ∧ ks = (List.replicate (ks.length : Int).toNat [ks.getD (Int.toNat 0) 0]).flatten ∧ (Builtin.Str.occurrences lt (Str.ofString (toString (ks.getD (Int.toNat 0) 0))) 0 lt.length 1).isEmpty = false then
    if (nm == Str.ofString "CMPLX") = true then if ks = [3, 3] then none else some (nm, if ks = [3] then [3] else (List.replicate (ks.length : Int).toNat [1]).flatten, 3)
    else if (nm == Str.ofString "ABS") = true ∧ (if (rs == Str.ofString "=") = true then ks.getD (Int.toNat 0) 0 else intOf rs) = 3 then some (op, ks, 1) else some (op, ks, if (rs == Str.ofString "=") = true then ks.getD (Int.toNat 0) 0 else intOf rs)
  else none
/-- _law_due, as a plain function -/
noncomputable def dueP (nm : Str) (ks : List Int) : Option (Str × List Int × Int) := match rowTab.find? (fun q => q.1 == nm) with
  | none => none
  | some p => dueRow (p.2.1.getD nm) p.2.2.1 p.2.2.2 nm ks
section
variable {n op lt rs nm : Str} {oo : Option Str} {ks : List Int}
theorem due_at (hp : (n, oo, lt, rs) ∈ rowTab) (h : (n == nm) = true) : dueP nm ks = dueRow (oo.getD nm) lt rs nm ks := by
  have e : n = nm := eq_of_beq h
  subst e
  have := find_rows _ hp
  unfold dueP; rw [this]
theorem dr_count (h : countsP op ks.length = false) : dueRow op lt rs nm ks = none := if_neg fun q => by rw [h] at q; exact absurd q.1 (by decide)
theorem dr_same (h : ¬ ks = (List.replicate (ks.length : Int).toNat [ks.getD (Int.toNat 0) 0]).flatten) : dueRow op lt rs nm ks = none := if_neg fun q => h q.2.1
theorem dr_in (h : (Builtin.Str.occurrences lt (Str.ofString (toString (ks.getD (Int.toNat 0) 0))) 0 lt.length 1).isEmpty = true) : dueRow op lt rs nm ks = none := if_neg fun q => by rw [h] at q; exact absurd q.2.2 (by decide)
theorem dr_c33 (c : countsP op ks.length = true) (e : ks = (List.replicate (ks.length : Int).toNat [ks.getD (Int.toNat 0) 0]).flatten) (i : (Builtin.Str.occurrences lt (Str.ofString (toString (ks.getD (Int.toNat 0) 0))) 0 lt.length 1).isEmpty = false) (k : (nm == Str.ofString "CMPLX") = true) (h : ks = [3, 3]) : dueRow op lt rs nm ks = none := by unfold dueRow; rw [if_pos ⟨c, e, i⟩, if_pos k, if_pos h]
theorem dr_c3 (c : countsP op ks.length = true) (e : ks = (List.replicate (ks.length : Int).toNat [ks.getD (Int.toNat 0) 0]).flatten) (i : (Builtin.Str.occurrences lt (Str.ofString (toString (ks.getD (Int.toNat 0) 0))) 0 lt.length 1).isEmpty = false) (k : (nm == Str.ofString "CMPLX") = true) (h : ¬ ks = [3, 3]) (g : ks = [3]) : dueRow op lt rs nm ks = some (nm, [3], 3) := by unfold dueRow; rw [if_pos ⟨c, e, i⟩, if_pos k, if_neg h, if_pos g]
theorem dr_cx (c : countsP op ks.length = true) (e : ks = (List.replicate (ks.length : Int).toNat [ks.getD (Int.toNat 0) 0]).flatten) (i : (Builtin.Str.occurrences lt (Str.ofString (toString (ks.getD (Int.toNat 0) 0))) 0 lt.length 1).isEmpty = false) (k : (nm == Str.ofString "CMPLX") = true) (h : ¬ ks = [3, 3]) (g : ¬ ks = [3]) : dueRow op lt rs nm ks = some (nm, (List.replicate (ks.length : Int).toNat [1]).flatten, 3) := by unfold dueRow; rw [if_pos ⟨c, e, i⟩, if_pos k, if_neg h, if_neg g]
theorem dr_1 (c : countsP op ks.length = true) (e : ks = (List.replicate (ks.length : Int).toNat [ks.getD (Int.toNat 0) 0]).flatten) (i : (Builtin.Str.occurrences lt (Str.ofString (toString (ks.getD (Int.toNat 0) 0))) 0 lt.length 1).isEmpty = false) (k : (nm == Str.ofString "CMPLX") = false) (r : (rs == Str.ofString "=") = true) (a : (nm == Str.ofString "ABS") = true) (t : ks.getD (Int.toNat 0) 0 = 3) : dueRow op lt rs nm ks = some (op, ks, 1) := by
  unfold dueRow; rw [if_pos ⟨c, e, i⟩, if_neg (by rw [k]; exact Bool.false_ne_true), if_pos r, if_pos ⟨a, t⟩]
theorem dr_2 (c : countsP op ks.length = true) (e : ks = (List.replicate (ks.length : Int).toNat [ks.getD (Int.toNat 0) 0]).flatten) (i : (Builtin.Str.occurrences lt (Str.ofString (toString (ks.getD (Int.toNat 0) 0))) 0 lt.length 1).isEmpty = false) (k : (nm == Str.ofString "CMPLX") = false) (r : (rs == Str.ofString "=") = true) (t : (nm == Str.ofString "ABS") = false ∨ ks.getD (Int.toNat 0) 0 ≠ 3) : dueRow op lt rs nm ks = some (op, ks, ks.getD (Int.toNat 0) 0) := by
  unfold dueRow; rw [if_pos ⟨c, e, i⟩, if_neg (by rw [k]; exact Bool.false_ne_true), if_pos r, if_neg fun q => t.elim (fun z => by rw [z] at q; exact absurd q.1 (by decide)) fun z => z q.2]
theorem dr_3 (c : countsP op ks.length = true) (e : ks = (List.replicate (ks.length : Int).toNat [ks.getD (Int.toNat 0) 0]).flatten) (i : (Builtin.Str.occurrences lt (Str.ofString (toString (ks.getD (Int.toNat 0) 0))) 0 lt.length 1).isEmpty = false) (k : (nm == Str.ofString "CMPLX") = false) (r : (rs == Str.ofString "=") = false) (a : (nm == Str.ofString "ABS") = true) (t : intOf rs = 3) : dueRow op lt rs nm ks = some (op, ks, 1) := by
  unfold dueRow; rw [if_pos ⟨c, e, i⟩, if_neg (by rw [k]; exact Bool.false_ne_true), if_neg (show ¬ (rs == Str.ofString "=") = true by rw [r]; exact Bool.false_ne_true), if_pos ⟨a, t⟩]
theorem dr_4 (c : countsP op ks.length = true) (e : ks = (List.replicate (ks.length : Int).toNat [ks.getD (Int.toNat 0) 0]).flatten) (i : (Builtin.Str.occurrences lt (Str.ofString (toString (ks.getD (Int.toNat 0) 0))) 0 lt.length 1).isEmpty = false) (k : (nm == Str.ofString "CMPLX") = false) (r : (rs == Str.ofString "=") = false) (t : (nm == Str.ofString "ABS") = false ∨ intOf rs ≠ 3) : dueRow op lt rs nm ks = some (op, ks, intOf rs) := by
  unfold dueRow; rw [if_pos ⟨c, e, i⟩, if_neg (by rw [k]; exact Bool.false_ne_true), if_neg (show ¬ (rs == Str.ofString "=") = true by rw [r]; exact Bool.false_ne_true), if_neg fun q => t.elim (fun z => by rw [z] at q; exact absurd q.1 (by decide)) fun z => z q.2]
end
/-- the frame's map between two turns -/
noncomputable def rowMap (m0 : Str → Option Value) (a b : Option Value) : Str → Option Value := fun y => if y = Str.ofString "parts" then a else if y = Str.ofString "row" then b else m0 y
def hitRow (nm r : Str) : Prop := (Txt.split r (Str.ofString ":")).headD Str.empty = nm
theorem rowMap_self (m0 : Str → Option Value) : rowMap m0 (m0 (Str.ofString "parts")) (m0 (Str.ofString "row")) = m0 := by
  funext y; unfold rowMap; split
  · rename_i e; rw [e]
  · split
    · rename_i e; rw [e]
    · rfl
theorem parts_head (p : Str × Option Str × Str × Str) : (rowParts p).headD Str.empty = p.1 := by
  obtain ⟨n, oo, lt, rs⟩ := p
  cases oo <;> rfl
theorem due_none {nm : Str} {ks : List Int} (h : ∀ r ∈ rowStrs, ¬ hitRow nm r) : dueP nm ks = none := by
  have k : rowTab.find? (fun q => q.1 == nm) = none := by
    rw [List.find?_eq_none]
    intro p hp e
    have hm : (rowParts p).map (·.cps.toList) ∈ rowTab.map (fun p => (rowParts p).map (·.cps.toList)) := List.mem_map.mpr ⟨p, hp, rfl⟩
    rw [← cut_rows] at hm
    obtain ⟨r, hr, e2⟩ := List.mem_map.mp hm
    refine h r hr ?_
    unfold hitRow
    rw [show Txt.split r (Str.ofString ":") = rowParts p from split_is e2, parts_head]
    exact eq_of_beq e
  unfold dueP; rw [k]
section
variable {prog : Program} {w : World} {A : Around} {E : Value → Shared → Prop} {s : Shared} {h₀ : Heap} {env : Env} {target : Expr} {body : List Stmt} {Q : Flow → Shared → Prop}
theorem two_map {a b : Str} {va vb : Value} (h : (a == b) = false) : (fun y => List.lookup y [(a, va), (b, vb)]) = fun y => if y = b then some vb else if y = a then some va else none := by
  funext y
  by_cases e1 : y = a
  · subst e1
    rw [if_neg (beq_eq_false_iff_ne.mp h), if_pos rfl]; simp [List.lookup]
  · have n1 : (y == a) = false := beq_eq_false_iff_ne.mpr e1
    by_cases e2 : y = b
    · subst e2
      rw [if_pos rfl]; simp [List.lookup, n1]
    · have n2 : (y == b) = false := beq_eq_false_iff_ne.mpr e2
      rw [if_neg e2, if_neg e1]; simp [List.lookup, n1, n2]
theorem rowMap_step {m0 : Str → Option Value} {op or : Option Value} {v1 v2 : Value} : (fun y => if y = Str.ofString "parts" then some v1 else if y = Str.ofString "row" then some v2 else rowMap m0 op or y) = rowMap m0 (some v1) (some v2) := by
  funext y; unfold rowMap; split
  · rfl
  · split
    · rfl
    · rfl
theorem no_hit {nm r n : Str} {l : List Str} (hsp : Txt.split r (Str.ofString ":") = n :: l) (h : (n == nm) = false) : ¬ hitRow nm r := by
  unfold hitRow; rw [hsp]; exact beq_eq_false_iff_ne.mp h
theorem unr_back {L I : Addr} {o : Obj} {x : Addr × Obj} {news : List (Addr × Obj)} {s₁ : Shared} {nm r : Str} {m0 : Str → Option Value} {op or : Option Value} {v1 v2 : Value} {h' : Heap} {tk : Nat} (hn : ¬ hitRow nm r) (hI : ∀ p ∈ x :: news, p.1 < I)
    (F : Fr h₀ L h' (fun y => if y = Str.ofString "parts" then some v1 else if y = Str.ofString "row" then some v2 else rowMap m0 op or y)) (N : News h₀ L h' ((I, o) :: x :: news)) :
    UnrEndW h₀ L s₁ [(I, o)] (fun m' n' => ¬ hitRow nm r ∧ n' = x :: news ∧ ∃ a b, m' = rowMap m0 a b) { s₁ with heap := h', toks := tk } :=
  ⟨h', tk, _, x :: news, rfl, F, N, fun p hp q hq e => by
    rw [List.mem_singleton.mp hq] at e
    have := hI p hp
    rw [e] at this
    exact absurd this (Nat.lt_irrefl _), hn, rfl, _, _, rowMap_step⟩
theorem news_pick2 {h : Heap} {L : Addr} {p1 p2 : Addr × Obj} {rest big : List (Addr × Obj)} (N : News h₀ L h big) (a1 : p1 ∈ big) (a2 : p2 ∈ big) (ar : ∀ p ∈ rest, p ∈ big) : News h₀ L h (p1 :: p2 :: rest) := fun p hp => by
  rcases List.mem_cons.mp hp with rfl | hp
  · exact N _ a1
  · rcases List.mem_cons.mp hp with rfl | hp
    · exact N _ a2
    · exact N _ (ar _ hp)
/-- what the posts of the due row's loop give: no answer, or the triple -/
def DueNo (h₀ : Heap) (L : Addr) (news : List (Addr × Obj)) (nm : Str) (ks : List Int) (Q : Flow → Shared → Prop) (s : Shared) : Prop :=
  ∀ m' h t, dueP nm ks = none → Fr h₀ L h m' → News h₀ L h news → Q (.ret .none) { s with heap := h, toks := t }
def DueYes (h₀ : Heap) (L : Addr) (news : List (Addr × Obj)) (nm : Str) (ks : List Int) (Q : Flow → Shared → Prop) (s : Shared) : Prop :=
  ∀ T op t1 wl r t2 o ws wk m' h t, dueP nm ks = some (op, wk, r) → Fr h₀ L h m' → News h₀ L h ((T, tripleObj op t1 wl r t2) :: (wl, o) :: news) → ListObj o ws → IntsAre ws wk → Q (.ret (.ref T)) { s with heap := h, toks := t }
/-- the way back to the loop's head -/
def DueBack (h₀ : Heap) (L I : Addr) (o : Obj) (news : List (Addr × Obj)) (nm r : Str) (m0 : Str → Option Value) (op or : Option Value) (Q : Flow → Shared → Prop) (s : Shared) : Prop :=
  ∀ v1 v2 h t, ¬ hitRow nm r → Fr h₀ L h (fun y => if y = Str.ofString "parts" then some v1 else if y = Str.ofString "row" then some v2 else rowMap m0 op or y) → News h₀ L h ((I, o) :: news) → Q .next { s with heap := h, toks := t }
theorem due_rest {nm : Str} {ks : List Int} {I D : Addr} {od : Obj} {news : List (Addr × Obj)} {l : List (Str × Tok)} {m0 m1 : Str → Option Value} (hm : m1 = m0) (hl : l.map (·.1) = rowStrs)
    (hI : ∀ p ∈ (D, od) :: news, p.1 < I)
    (q1 : DueNo h₀ env.locals ((D, od) :: news) nm ks Q s) (q2 : DueYes h₀ env.locals ((D, od) :: news) nm ks Q s)
    (turn : ∀ r tk op or h t, r ∈ rowStrs → Fr h₀ env.locals h (rowMap m0 op or) → ∀ o : Obj, o.cls = .type "list_iterator" → News h₀ env.locals h ((I, o) :: (D, od) :: news) →
      ∀ s Q E, DueBack h₀ env.locals I o ((D, od) :: news) nm r m0 op or Q s → DueNo h₀ env.locals ((D, od) :: news) nm ks Q s → DueYes h₀ env.locals ((D, od) :: news) nm ks Q s →
      wpAny (model prog w) A (assign target env (.str r tk)) (fun _ s₂ => wpAny (model prog w) A (execs body env) Q E s₂) E { s with heap := h, toks := t })
    (fin : ∀ op or h t, (∀ r ∈ rowStrs, ¬ hitRow nm r) → Fr h₀ env.locals h (rowMap m0 op or) → News h₀ env.locals h ((D, od) :: news) → Q .next { s with heap := h, toks := t }) :
    ItemsRest prog w A E h₀ env target body Q s [(I, "list_iterator")] [(D, od)] ((strValues l).map .val) m1 ((D, od) :: news) := by
  rw [hm]
  have := rest_rows (prog := prog) (w := w) (A := A) (E := E) (s := s) (h₀ := h₀) (env := env) (target := target) (body := body) (Q := Q) (J := rowMap m0) (hit := hitRow nm) (I := I) (keep := [(D, od)]) (news := (D, od) :: news) (by k_subL) l rowStrs (fun r hr => hl ▸ hr) (fun r hr hn => absurd (hl ▸ hr) hn)
    (fun r tk op or h t hr F o ho N => turn r tk op or h t hr F o ho N s _ E (fun _ _ _ _ hn F N => unr_back hn hI F N) (fun m' h t e F N => q1 m' h t e F N) (fun T op t1 wl r t2 o ws wk m' h t e F N lo ia => q2 T op t1 wl r t2 o ws wk m' h t e F N lo ia)) fin (m0 (Str.ofString "parts")) (m0 (Str.ofString "row"))
  rw [rowMap_self] at this
  exact this
/-- the frame's map when a row is hit -/
noncomputable def dueMap (nm : Str) (tn : Tok) (kl : Addr) (op : Str) (t1 : Tok) (lt : Str) (t2 : Tok) (rs : Str) (t3 : Tok) (u : Str → Option Value) : Str → Option Value := fun y => if y = Str.ofString "result" then some (.str rs t3) else if y = Str.ofString "let" then some (.str lt t2) else if y = Str.ofString "operation" then some (.str op t1) else if y = Str.ofString "kinds" then some (.ref kl) else if y = Str.ofString "name" then some (.str nm tn) else u y
theorem dueMap_self {nm op lt rs : Str} {tn t1 t2 t3 : Tok} {kl : Addr} {m : Str → Option Value} (h1 : m (Str.ofString "result") = some (.str rs t3)) (h2 : m (Str.ofString "let") = some (.str lt t2)) (h3 : m (Str.ofString "operation") = some (.str op t1)) (h4 : m (Str.ofString "kinds") = some (.ref kl)) (h5 : m (Str.ofString "name") = some (.str nm tn)) : dueMap nm tn kl op t1 lt t2 rs t3 m = m := by
  funext y; unfold dueMap; split
  · rename_i e; rw [e, h1]
  · split
    · rename_i e; rw [e, h2]
    · split
      · rename_i e; rw [e, h3]
      · split
        · rename_i e; rw [e, h4]
        · split
          · rename_i e; rw [e, h5]
          · rfl
/-- what is done once a row is hit -/
def DueTail (prog : Program) (w : World) (A : Around) (h₀ : Heap) (env : Env) (rest : List Stmt) (nm : Str) (ks : List Int) (kl : Addr) (op lt rs : Str) (base : List (Addr × Obj)) : Prop :=
  ∀ s E Q, DueNo h₀ env.locals base nm ks Q s → DueYes h₀ env.locals base nm ks Q s → ∀ tn t1 t2 t3 u h t, dueP nm ks = dueRow op lt rs nm ks → Fr h₀ env.locals h (dueMap nm tn kl op t1 lt t2 rs t3 u) → News h₀ env.locals h base → wpAny (model prog w) A (execs rest env) Q E { s with heap := h, toks := t }
theorem due_cut {nm : Str} {ks : List Int} {kl : Addr} {op lt rs : Str} {base : List (Addr × Obj)} {v : Value} {p0 a b : Stmt} {c : Expr} {rest els : List Stmt} {pos : Pos} {R R0 : Flow → Shared → Prop} {s0 : Shared} (_q : DueNo h₀ env.locals base nm ks R0 s0)
    (tail : DueTail prog w A h₀ env rest nm ks kl op lt rs base)
    (head : DueTail prog w A h₀ env rest nm ks kl op lt rs base → wpAny (model prog w) A (assign target env v) (fun _ s₂ => wpAny (model prog w) A (execs [p0, .If c (a :: b :: rest) els pos] env) R E s₂) E s) :
    wpAny (model prog w) A (assign target env v) (fun _ s₂ => wpAny (model prog w) A (execs [p0, .If c (a :: b :: rest) els pos] env) R E s₂) E s := head tail
theorem due_use {nm op lt rs : Str} {ks : List Int} {kl : Addr} {base big : List (Addr × Obj)} {tn t1 t2 t3 : Tok} {m' : Str → Option Value} {h : Heap} {t : Nat} {rest : List Stmt} (T : DueTail prog w A h₀ env rest nm ks kl op lt rs base) (hit : dueP nm ks = dueRow op lt rs nm ks) (q1 : DueNo h₀ env.locals base nm ks Q s) (q2 : DueYes h₀ env.locals base nm ks Q s)
    (F : Fr h₀ env.locals h m') (N : News h₀ env.locals h big) (sub : ∀ p ∈ base, p ∈ big) (h1 : m' (Str.ofString "result") = some (.str rs t3)) (h2 : m' (Str.ofString "let") = some (.str lt t2)) (h3 : m' (Str.ofString "operation") = some (.str op t1)) (h4 : m' (Str.ofString "kinds") = some (.ref kl)) (h5 : m' (Str.ofString "name") = some (.str nm tn)) :
    wpAny (model prog w) A (execs rest env) Q E { s with heap := h, toks := t } :=
  T s E Q q1 q2 tn t1 t2 t3 m' h t hit (by rw [dueMap_self h1 h2 h3 h4 h5]; exact F) (fun p hp => N p (sub p hp))
end

theorem kw_D4_7 : True := by
  k_with "m:call builtin:str.split" =>
    (k_here; (with_reducible show wpAny _ _ (call (Value.builtin "str.split") [Value.str r _, Value.str _ _]) _ _ _); k_dflt (refine' KSpl.split1 ?kwa ?kwb ?kwc ?_ ?kwd; (case kwa => k_asm); (case kwb => k_asm); (case kwc => decide); (case kwd => assumption)); intro D' l' h' k' e' a' F' N' l1; (try k_lt l1); replace e' := e'.trans hsp; kspl_open e'; (simp only [strValues, List.map_cons, List.map_nil] at N' a'))
  k_with "m:call type:str" =>
    (k_here; (with_reducible show wpAny _ _ (call (Value.type "str") [Value.int _ _]) _ _ _); k_dflt (refine' P.str_of_int ?kwh ?_; (case kwh => exact hlog)))
  k_with "m:call type:int" =>
    (k_here; (with_reducible show wpAny _ _ (call (Value.type "int") [Value.str _ _]) _ _ _); k_dflt (refine' KIN.call_text (n := intOf rs) ?kwh ?kwl ?_; (case kwh => exact hint (by assumption)); (case kwl => exact hrl)))
  trivial
theorem ct_due {w : World} {p : Program} {loose : List Str} {mean : ExcName → Option Value} {mg mb : Str → Option Value} {nm : Str} {tn : Tok} {ks : List Int} {vs : List Value} {c : Nat} {kl : Addr} {news : List (Addr × Obj)}
  {dp un : Nat} {gd : Option (List Code)} {cn : Str} {cs : Scope} {a : Addr} {ccd : Value} {cl : List (Str × Addr)} {outer : List Env} {A₀ : Around} {base h₀ : Heap} {L : Addr} {m : Str → Option Value} {s : Shared} {Q E : Value → Shared → Prop} :
  Below A₀ base outer h₀ → Fr h₀ L s.heap m → (hd.heap_39 w.params).In h₀ → Top p loose mean mg mb h₀ → cs.kind = .function → dp < 330 → un < 60 → News h₀ L s.heap ((kl, listOf vs.toArray c) :: news) → IntsAre vs ks → (ks.length : Int) ≤ 4 → (∀ v ∈ ks, 0 ≤ v ∧ v ≤ 5) →
  (∀ h' tk', dueP nm ks = none → Fr h₀ L h' m → News h₀ L h' ((kl, listOf vs.toArray c) :: news) → Q .none { s with heap := h', toks := tk' }) →
  (∀ T op t1 r t2 wl o ws w h' tk', dueP nm ks = some (op, w, r) → ListObj o ws → IntsAre ws w → Fr h₀ L h' m → News h₀ L h' ((T, tripleObj op t1 wl r t2) :: (wl, o) :: (kl, listOf vs.toArray c) :: news) → Q (.ref T) { s with heap := h', toks := tk' }) →
  wpAny (model Challenge.rw_no0227_01.row.prog w) (ktrTop dp un gd cn cs L a ccd cl outer) (call (.ref 144) [.str nm tn, .ref kl]) Q E s := by
  k_fill
  intro B F X T hk hdp hun N hi hle hks hno hyes
  have hlog := log_of hks
  have hy : ∀ T op t1 r t2 wl o ws w h' tk', dueP nm ks = some (op, w, r) → Fr h₀ L h' m → News h₀ L h' ((T, tripleObj op t1 wl r t2) :: (wl, o) :: (kl, listOf vs.toArray c) :: news) → ListObj o ws → IntsAre ws w → Q (.ref T) { s with heap := h', toks := tk' } := fun T op t1 r t2 wl o ws w h' tk' e f n lo ia => hyes T op t1 r t2 wl o ws w h' tk' e lo ia f n
  clear hyes
  refine wpAny_call ?_
  k_dflt cell_enter
  k_with "pyIter ref" => (k_dflt (refine' iter_listTurns ?a ?b ?c ?d ?e ?f ?_; (case b => k_asm); (case c => k_asm); (case d => k_mem); (case a => exact rfl); (case e => exact rfl); (case f => exact rfl)); intro I' hI')
  k_steps
  refine due_rest (nm := nm) (ks := ks) (m0 := fun y => if y = Str.ofString "name" then some (.str nm tn) else if y = Str.ofString "kinds" then some (.ref kl) else none) (by with_unfolding_all exact two_map (a := Str.ofString "kinds") (b := Str.ofString "name") (va := .ref kl) (vb := .str nm tn) (by decide)) (by assumption) hI' ?_ ?_ ?_ ?_
  · intro m9 h9 t9 e9 Fr9 N9
    k_steps
    all_goals exact hno _ _ e9 (by assumption) (cb_drop (by assumption) (by refine List.forall_mem_cons.mpr ⟨by k_mem, fun p hp => ?_⟩; repeat (first | exact hp | refine List.mem_cons_of_mem _ ?_ | refine List.mem_append_left _ ?_)))
  · intro T9 op9 t91 wl9 r9 t92 o9 ws9 wk9 m9 h9 t9 e9 Fr9 N9 lo9 ia9
    k_steps
    all_goals exact hy _ _ _ _ _ _ _ _ _ _ _ e9 (by assumption) (news_pick3 (by assumption) (by k_mem) (by k_mem) (by k_mem) (by intro p hp; repeat (first | exact hp | refine List.mem_cons_of_mem _ ?_ | refine List.mem_append_left _ ?_))) lo9 ia9
  · intro r tk op or h t hr Fr1 o ho N1 s9 Q9 E9 back q1 q2
    obtain ⟨p, hp, hsp⟩ := row_mem hr
    have hlen := len_rows r hr
    obtain ⟨hrl, hint⟩ := int_rows p hp
    obtain ⟨n, oo, lt, rs⟩ := p
    dsimp only at hrl hint
    clear hno hy
    with_reducible refine due_cut (nm := nm) (ks := ks) (kl := kl) (op := oo.getD nm) (lt := lt) (rs := rs) q1 ?_ ?_
    · clear back q1 q2 hlen hsp Fr1 N1
      generalize oo.getD nm = op9
      unfold DueTail
      intro s8 E8 Q8 q1 q2 tn9 t91 t92 t93 u9 h9 t9 hit Fr9 N9
      k_steps
      all_goals first
        | exact q1 _ _ _ (hit.trans (by first
            | exact dr_count (by assumption)
            | exact dr_same (by assumption)
            | exact dr_in (by assumption)
            | exact dr_c33 (by assumption) (by assumption) (by assumption) (by assumption) (by assumption))) (by assumption) (cb_drop (by assumption) (by intro p hp; repeat (first | exact hp | refine List.mem_cons_of_mem _ ?_ | refine List.mem_append_left _ ?_)))
        | (exact q2 _ _ _ _ _ _ _ _ _ _ _ _ (hit.trans (by first
             | exact dr_c3 (by assumption) (by assumption) (by assumption) (by assumption) (by assumption) (by assumption)
             | exact dr_cx (by assumption) (by assumption) (by assumption) (by assumption) (by assumption) (by assumption)
             | exact dr_1 (by assumption) (by assumption) (by assumption) (by assumption) (by assumption) (by assumption) (by assumption)
             | exact dr_3 (by assumption) (by assumption) (by assumption) (by assumption) (by assumption) (by assumption) (by assumption)
             | exact dr_2 (by assumption) (by assumption) (by assumption) (by assumption) (by assumption) (by first | exact .inl (by assumption) | exact .inr (by assumption))
             | exact dr_4 (by assumption) (by assumption) (by assumption) (by assumption) (by assumption) (by first | exact .inl (by assumption) | exact .inr (by assumption)))) (by assumption) (news_pick2 (by assumption) (by k_mem) (by k_mem) (by intro p hp; repeat (first | exact hp | refine List.mem_cons_of_mem _ ?_ | refine List.mem_append_left _ ?_))) (by first | assumption | exact ⟨rfl, _, rfl⟩) (by first | assumption | exact IntsAre.cons _ _ IntsAre.nil))
    · intro tl9
      k_with "m:execs cons" =>
        (with_reducible show wpAny _ _ (execs (Stmt.If (Expr.BoolOp _ _ _) _ _ _ :: Stmt.If _ _ _ _ :: _) _) _ _ _); refine of_hold ?_
      cases oo with
      | none =>
        replace hsp : Txt.split r (Str.ofString ":") = [n, lt, rs] := hsp
        k_steps
        all_goals first
          | exact back _ _ _ _ (no_hit hsp (by assumption)) (by assumption) (cb_drop (by assumption) (by intro p hp; repeat (first | exact hp | refine List.mem_cons_of_mem _ ?_ | refine List.mem_append_left _ ?_)))
          | (unfold Hold; exact due_use tl9 (due_at hp (by assumption)) (fun m' h t e F N => q1 m' h t e F N) (fun T op t1 wl r t2 o ws wk m' h t e F N lo ia => q2 T op t1 wl r t2 o ws wk m' h t e F N lo ia) (by assumption) (by assumption) (by intro p hp; repeat (first | exact hp | refine List.mem_cons_of_mem _ ?_ | refine List.mem_append_left _ ?_)) rfl rfl rfl rfl rfl)
      | some o1 =>
        replace hsp : Txt.split r (Str.ofString ":") = [n, o1, lt, rs] := hsp
        k_steps
        all_goals first
          | exact back _ _ _ _ (no_hit hsp (by assumption)) (by assumption) (cb_drop (by assumption) (by intro p hp; repeat (first | exact hp | refine List.mem_cons_of_mem _ ?_ | refine List.mem_append_left _ ?_)))
          | (unfold Hold; exact due_use tl9 (due_at hp (by assumption)) (fun m' h t e F N => q1 m' h t e F N) (fun T op t1 wl r t2 o ws wk m' h t e F N lo ia => q2 T op t1 wl r t2 o ws wk m' h t e F N lo ia) (by assumption) (by assumption) (by intro p hp; repeat (first | exact hp | refine List.mem_cons_of_mem _ ?_ | refine List.mem_append_left _ ?_)) rfl rfl rfl rfl rfl)
  · intro op or h t hn Fr1 N1
    k_steps
    all_goals exact hno _ _ (due_none hn) (by assumption) (cb_drop (by assumption) (by refine List.forall_mem_cons.mpr ⟨by k_mem, fun p hp => ?_⟩; repeat (first | exact hp | refine List.mem_cons_of_mem _ ?_ | refine List.mem_append_left _ ?_)))
end

section
open PySem PySem.W PyProof.Rows PySem.Calls
theorem kw_D5_1 : True := by
  k_with_none
  k_with "m:exec Raise some none" =>
    (k_here; (with_reducible show wpAny _ _ (exec (Stmt.Raise (some (Expr.Call (Expr.Name ("CheckFault" : Str) _) _ _ _)) none _) _) _ _ _); refine Raise_thrown rfl ?_)
  k_with "m:call ref" =>
    (k_here; (with_reducible show wpAny _ _ (call (Value.ref 44) [Value.str _ _]) _ _ _); k_dflt (refine' ct_fault ?kwB ?kwF ?kwX ?kwT ?kwhk ?kwhd ?kwhu ?kwN ?_; (case kwB => k_asm); (case kwF => k_asm); (case kwX => k_asm); (case kwT => k_asm); (case kwN => k_asm); (case kwhk => first | exact rfl | assumption); (case kwhd => first | omega | ((try simp only [depth_under_make, depth_under_kw, depth_in1, depth_deeper, depth_caller]); (try dsimp only [ktrTop]); omega)); (case kwhu => first | omega | ((try simp only [units_in1, units_deeper, Around.mark_units, units_caller]); (try dsimp only [ktrTop]); omega)); k_whole); intro e' ta' h' tk' fa' F' N'; (obtain ⟨dd', sl', he'⟩ := fa'.there))
  k_with "m:Thrown" =>
    (refine ⟨_, _, _, _, rfl, by k_in, by kts_isx, by assumption, ?_⟩)
  k_with "m:leaving ref" =>
    (k_here; first
      | ((rename FaultK _ _ _ _ _ _ _ _ => fa9); refine' leave_fault ?kwK fa9 ?kwF ?kwN ?_ rfl; (case kwK => assumption); (case kwF => assumption); (case kwN => k_asm); k_whole; intro h' S' R' U'; (try dsimp only at S' R' U' ⊢))
      | (refine' leave_onS ?kwk1 ?kwk2 ?kwk3 ?kwk4 ?_; (case kwk3 => assumption); (case kwk2 => assumption); (case kwk1 => assumption); (case kwk4 => assumption); k_whole; intro h' S' R' U'; (try dsimp only at S' R' U' ⊢)))
  k_with "m:call ref" =>
    (k_here; (with_reducible show wpAny _ _ (call (Value.ref 61) _) _ _ _); k_dflt (refine' kgeneric1 nm ?kwB ?kwF ?kwX ?kwT ?kwhk ?kwhd ?kwhu ?kwN ?_; (case kwB => k_asm); (case kwF => k_asm); (case kwX => k_asm); (case kwT => k_asm); (case kwN => k_asm); (case kwhk => first | exact rfl | assumption); (case kwhd => first | omega | ((try simp only [depth_under_make, depth_under_kw, depth_in1, depth_deeper, depth_caller]); (try dsimp only [ktrTop]); omega)); (case kwhu => first | omega | ((try simp only [units_in1, units_deeper, Around.mark_units, units_caller]); (try dsimp only [ktrTop]); omega)); all_goals intros))
  k_with "m:call ref" =>
    (k_here; (with_reducible show wpAny _ _ (call (Value.ref 68) _) _ _ _); k_dflt (refine' kspecific nm ?kwB ?kwF ?kwX ?kwT ?kwhk ?kwhd ?kwhu ?kwN ?_ ?_; (case kwB => k_asm); (case kwF => k_asm); (case kwX => k_asm); (case kwT => k_asm); (case kwN => k_asm); (case kwhk => first | exact rfl | assumption); (case kwhd => first | omega | ((try simp only [depth_under_make, depth_under_kw, depth_in1, depth_deeper, depth_caller]); (try dsimp only [ktrTop]); omega)); (case kwhu => first | omega | ((try simp only [units_in1, units_deeper, Around.mark_units, units_caller]); (try dsimp only [ktrTop]); omega)); all_goals intros))
  k_with "m:compareOp In str ref" =>
    (k_here; k_dflt (refine' in_gen ?kwG ?kwD ?kws ?_ ?_; (case kwD => exact News.get (by k_asm) (by k_mem)); (case kwG => assumption); (case kws => assumption); all_goals intros))
  k_with "m:compareOp In str ref" =>
    (k_here; k_dflt (refine' in_has ?kwH ?kwD ?kws ?_; (case kwD => exact News.get (by k_asm) (by k_mem)); (case kwH => assumption); (case kws => assumption); k_whole; (try dsimp only [Option.isSome_some, Option.isSome_none])))
  k_with "m:subscriptTail" =>
    (k_here; (with_reducible show wpAny _ _ (subscriptTail _ _ (Value.ref _) (Value.str _ _)) _ _ _); k_dflt (refine' item_has ?kwH ?kwD ?_; (case kwD => exact News.get (by k_asm) (by k_mem)); (case kwH => assumption); k_whole))
  k_with "m:getMethod ref" =>
    (k_here; (with_reducible show wpAny _ _ (getMethod (Value.ref _) (Str.ofString "get") _) _ _ _); k_dflt (refine' getMethod_has ?kwH ?kwD ?_; (case kwD => exact News.get (by k_asm) (by k_mem)); (case kwH => assumption); k_whole))
  k_with "m:call builtin:dict.get" =>
    (k_here; (with_reducible show wpAny _ _ (call (Value.builtin "dict.get") [Value.ref _, Value.str _ _]) _ _ _); k_dflt (refine' get_has ?kwH ?kwD ?kws ?_; (case kwD => exact News.get (by k_asm) (by k_mem)); (case kwH => assumption); (case kws => assumption); k_whole; (try dsimp only [Option.getD_some, Option.getD_none])))
  trivial

noncomputable def isP (nm : Str) : Bool := (genOf nm).isSome || (specOf nm).isSome
noncomputable def barL : List Str := [Str.ofString "INT", Str.ofString "REAL", Str.ofString "DBLE", Str.ofString "CMPLX", Str.ofString "ICHAR", Str.ofString "CHAR", Str.ofString "MAX", Str.ofString "MIN", Str.ofString "LOG", Str.ofString "LOG10"]
noncomputable def barO : List Str := [Str.ofString "INT", Str.ofString "REAL", Str.ofString "ICHAR", Str.ofString "CHAR", Str.ofString "MAX", Str.ofString "MIN", Str.ofString "LGE", Str.ofString "LGT", Str.ofString "LLE", Str.ofString "LLT"]
noncomputable def mayP (nm : Str) : Bool := match specOf nm with
  | none => (genOf nm).isSome && !(barL.any fun x => x == nm)
  | some p => if (barO.any fun x => x == p.1) = true then false else !(KTD.inWords p.1 manyL)
section
variable {nm : Str} {ks : List Int} {p : Str × Int}
theorem is1 (g : genOf nm = none) (h : specOf nm = none) : isP nm = false := by unfold isP; rw [g, h]; rfl
theorem is2 (g : genOf nm = none) (h : specOf nm = some p) : isP nm = true := by unfold isP; rw [g, h]; rfl
theorem is3 (g : genOf nm = some ks) : isP nm = true := by unfold isP; rw [g]; rfl
theorem ma1 (h : specOf nm = none) (g : genOf nm = none) : mayP nm = false := by unfold mayP; rw [h, g]; rfl
theorem ma2 (h : specOf nm = none) (g : genOf nm = some ks) : mayP nm = !(barL.any fun x => x == nm) := by unfold mayP; rw [h, g]; exact Bool.true_and _
theorem ma3 (h : specOf nm = some p) (b : (barO.any fun x => x == p.1) = true) : mayP nm = false := by unfold mayP; rw [h]; exact if_pos b
theorem ma4 (h : specOf nm = some p) (b : (barO.any fun x => x == p.1) = false) : mayP nm = !(KTD.inWords p.1 manyL) := by unfold mayP; rw [h]; exact if_neg (by rw [b]; exact Bool.false_ne_true)
end

theorem ct_is {w : World} {p : Program} {loose : List Str} {mean : ExcName → Option Value} {mg mb : Str → Option Value} {nm : Str} {tn : Tok} {news : List (Addr × Obj)}
  {dp un : Nat} {gd : Option (List Code)} {cn : Str} {cs : Scope} {a : Addr} {ccd : Value} {cl : List (Str × Addr)} {outer : List Env} {A₀ : Around} {base h₀ : Heap} {L : Addr} {m : Str → Option Value} {s : Shared} {Q E : Value → Shared → Prop} :
  Below A₀ base outer h₀ → Fr h₀ L s.heap m → (hd.heap_39 w.params).In h₀ → Top p loose mean mg mb h₀ → cs.kind = .function → dp < 330 → un < 60 → News h₀ L s.heap news →
  (∀ b h' tk', isP nm = b → Fr h₀ L h' m → News h₀ L h' news → Q (.bool b) { s with heap := h', toks := tk' }) →
  wpAny (model Challenge.rw_no0227_01.row.prog w) (ktrTop dp un gd cn cs L a ccd cl outer) (call (.ref 75) [.str nm tn]) Q E s := by
  k_fill
  intro B F X T hk hdp hun N hret
  refine wpAny_call ?_
  k_dflt cell_enter
  k_steps
  all_goals exact hret _ _ _ (by first
    | exact is1 (by assumption) (by assumption)
    | exact is2 (by assumption) (by assumption)
    | exact is3 (by assumption)
    | exact ma1 (by assumption) (by assumption)
    | exact ma2 (by assumption) (by assumption)
    | exact ma3 (by assumption) (by assumption)
    | exact ma4 (by assumption) (by assumption)) (by assumption) (cb_drop (by assumption) (by intro p hp; repeat (first | exact hp | refine List.mem_cons_of_mem _ ?_ | refine List.mem_append_left _ ?_)))

theorem ct_may {w : World} {p : Program} {loose : List Str} {mean : ExcName → Option Value} {mg mb : Str → Option Value} {nm : Str} {tn : Tok} {news : List (Addr × Obj)}
  {dp un : Nat} {gd : Option (List Code)} {cn : Str} {cs : Scope} {a : Addr} {ccd : Value} {cl : List (Str × Addr)} {outer : List Env} {A₀ : Around} {base h₀ : Heap} {L : Addr} {m : Str → Option Value} {s : Shared} {Q E : Value → Shared → Prop} :
  Below A₀ base outer h₀ → Fr h₀ L s.heap m → (hd.heap_39 w.params).In h₀ → Top p loose mean mg mb h₀ → cs.kind = .function → dp < 330 → un < 60 → News h₀ L s.heap news →
  (∀ b h' tk', mayP nm = b → Fr h₀ L h' m → News h₀ L h' news → Q (.bool b) { s with heap := h', toks := tk' }) →
  wpAny (model Challenge.rw_no0227_01.row.prog w) (ktrTop dp un gd cn cs L a ccd cl outer) (call (.ref 82) [.str nm tn]) Q E s := by
  k_fill
  intro B F X T hk hdp hun N hret
  refine wpAny_call ?_
  k_dflt cell_enter
  k_steps
  all_goals exact hret _ _ _ (by first
    | exact is1 (by assumption) (by assumption)
    | exact is2 (by assumption) (by assumption)
    | exact is3 (by assumption)
    | exact ma1 (by assumption) (by assumption)
    | exact ma2 (by assumption) (by assumption)
    | exact ma3 (by assumption) (by assumption)
    | exact ma4 (by assumption) (by assumption)) (by assumption) (cb_drop (by assumption) (by intro p hp; repeat (first | exact hp | refine List.mem_cons_of_mem _ ?_ | refine List.mem_append_left _ ?_)))
end

section
open PySem PySem.W PyProof.Rows PySem.Calls
noncomputable def headOf (r : Str) : Str := (Txt.split r (Str.ofString ":")).headD Str.empty
section
variable {prog : Program} {w : World} {A : Around} {E : Value → Shared → Prop} {s : Shared} {h₀ : Heap} {L : Addr} {m : Str → Option Value} {env : Env}
def NamesAt (prog : Program) (w : World) (A : Around) (h₀ : Heap) (L : Addr) (m : Str → Option Value) (env : Env) (elt : Expr) (x : Str) (scope : Scope) (cl : List (Str × Addr)) (Q : Value → Shared → Prop) (xv : Value) (s₁ : Shared) : Prop :=
  ∃ news D l c, xv = .ref D ∧ (D, listOf (strValues l).toArray c) ∈ news ∧ l.map (·.1) = rowStrs ∧ Fr h₀ L s₁.heap m ∧ News h₀ L s₁.heap news ∧
    (∀ C r t s₂ m₂ E', r ∈ rowStrs → Fr s₁.heap C s₂.heap m₂ → m₂ x = some (.str r t) →
      wpAny (model prog w) A (eval elt (compEnvC scope cl C env)) (fun y s₃ => Carried y (.str (headOf r)) ∧ Keeps s₂ s₃) E' s₂) ∧
    (∀ D' ys c' h' tk, StrsAre ys (rowStrs.map headOf) → Fr h₀ L h' m → News h₀ L h' ((D', listOf ys.toArray c') :: news) → Q (.ref D') { s₁ with heap := h', toks := tk })
theorem strs_carried : ∀ {ys : List Value} {ss : List Str}, CarriedAll ys (ss.map PyData.str) → StrsAre ys ss
  | [], [], _ => .nil
  | [], _ :: _, h => nomatch h
  | _ :: _, [], h => nomatch h
  | v :: ys, x :: ss, h => by
    cases h with
    | cons h1 h2 =>
      cases h1
      exact .cons _ _ (strs_carried h2)
theorem names_comp {elt iter : Expr} {x : Str} {px : Pos} {scope : Scope} {cl : List (Str × Addr)} {pos : Pos} {Q : Value → Shared → Prop}
    (_F₀ : Fr h₀ L s.heap m) (hh : A.handled = none) (hclos : closureFor scope env = pure cl) (hcell : ∀ y ∈ scope.names, y.2 ≠ .cell) (hkind : scope.kind = .function)
    (hnames : ∀ y ∈ scope.names, y.2 = .local → scope.names.lookup y.1 = some .local) (hx : scope.names.lookup x = some .local)
    (h : wpAny (model prog w) A (eval iter env) (NamesAt prog w A h₀ L m env elt x scope cl Q) E s)
    (hs : ∀ x, foldedSetIterable iter env x = pure x) :
    wpAny (model prog w) A (eval (.ListComp elt [⟨.Name x px, iter, [], 0⟩] scope pos) env) Q E s := by
  refine ListComp_DCn (K := .str) (pz := fun _ => true) (d := fun r => .str (headOf r)) (h₀ := h₀) (L := L) (m := m) hh hclos hcell hkind hnames hx (wpAny_mono h (fun xv s₁ h₁ => ?_) fun _ _ e => e) hs
  obtain ⟨news, D, l, c, rfl, hD, hl, F, N, helt, fin⟩ := h₁
  have hsa : StrsAre (strValues l) rowStrs := hl ▸ strsAre_of_values l
  refine ⟨news, D, strValues l, rowStrs, rfl, ⟨_, (N _ hD).1, rfl, _, rfl⟩, hsa.areOf, by decide, F, N, ?_, ?_, ?_⟩
  · intro C a v s₂ m₂ E' _ _ _ _ _ _
    exact wpAny_pure ⟨rfl, s₂.heap, s₂.toks, rfl, fun _ _ e => e⟩
  · intro C a v s₂ m₂ E' hC ha hv _ hn hm hk
    obtain ⟨t, rfl⟩ := hv
    exact helt C a t s₂ m₂ E' ha (frInComp hn hk hC) hm
  · intro D' ys h' tk F' N' hn hl' hp hc
    obtain ⟨⟨n, ho⟩, hne⟩ := hp
    have hLn : D' ≠ L := NewPlain.ne_locals ⟨⟨n, ho⟩, hne⟩ F'
    refine fin D' ys n h' tk (strs_carried ?_) F' fun p hp => ?_
    · have : (rowStrs.filter fun _ => true) = rowStrs := List.filter_eq_self.mpr fun _ _ => rfl
      rw [this] at hc
      rw [List.map_map]
      exact hc
    · rcases List.mem_cons.mp hp with rfl | hp
      · exact ⟨ho, hLn, hn⟩
      · exact N' p hp
end

section
variable {prog : Program} {w : World} {A : Around} {E : Value → Shared → Prop} {s : Shared} {h₀ : Heap} {L : Addr} {m : Str → Option Value} {news : List (Addr × Obj)}
theorem parts_small : ∀ r ∈ rowStrs, (Builtin.Str.partsBetween r (Builtin.Str.occurrences r (Str.ofString ":") 0 r.length (r.length + 1)) (Str.ofString ":").length).length ≤ sizeLine := by decide +kernel
theorem split_elem {r : Str} {t u : Tok} {Q : Value → Shared → Prop} (hr : r ∈ rowStrs)
    (h : ∀ D l h' k, l.map (·.1) = Txt.split r (Str.ofString ":") → (∀ b o, s.heap.get? b = some o → h'.get? b = some o) → h'.IsList D (strValues l).toArray → Q (.ref D) { s with heap := h', toks := k }) :
    wpAny (model prog w) A (call (.builtin "str.split") [.str r t, .str (Str.ofString ":") u]) Q E s :=
  SCH.split1 (P := fun g => ∀ b o, s.heap.get? b = some o → g.get? b = some o) (fun g ob p b o e => Heap.get?_push_of_some _ (p b o e)) (fun b o e => e) (by decide) (fun D l h' k e p hl => h D l h' k e p hl) (by have := len_rows r hr; omega) (parts_small r hr)
theorem item_elem {r : Str} {D : Addr} {l : List (Str × Tok)} {value slice : Expr} {u : Tok} {Q : Value → Shared → Prop} (hl : s.heap.IsList D (strValues l).toArray) (e : l.map (·.1) = Txt.split r (Str.ofString ":")) (h : ∀ t', Q (.str (headOf r) t') s)
    (hs : subscripted slice false (.ref D) (.int 0 u) = operate [.ref D, .int 0 u] (getItem (.ref D) (.int 0 u)) := by with_unfolding_all rfl) :
    wpAny (model prog w) A (subscriptTail value slice (.ref D) (.int 0 u)) Q E s := by
  have hp := split_pos r (Str.ofString ":")
  refine KTb.item_list hl (strsAre_of_values l) (by decide) ?_ (by decide) (fun t' _ => ?_) hs
  · rw [e]; omega
  · have k : (l.map (·.1)).getD (Int.toNat 0) Str.empty = headOf r := by
      rw [e]; unfold headOf
      cases Txt.split r (Str.ofString ":") <;> rfl
    rw [k]; exact h t'
noncomputable def noneL : List Str := [Str.ofString "X", Str.ofString "", Str.ofString "MAX2", Str.ofString "sin", Str.ofString "CTAN", Str.ofString "AMAX", Str.ofString "DCMPLX", Str.ofString "CLOG10"]
noncomputable def namesAll : List Str := rowStrs.map headOf ++ noneL
/-- the law's list of names -/
structure NamesL (zs : List Value) : Prop where
  out : StrsAre zs namesAll
theorem strs_app : ∀ {vs ws : List Value} {ys zs : List Str}, StrsAre vs ys → StrsAre ws zs → StrsAre (vs ++ ws) (ys ++ zs)
  | _, _, _, _, .nil, h => h
  | _, _, _, _, .cons y t h1, h => .cons y t (strs_app h1 h)
theorem none_list (X : (hd.heap_39 w.params).In h₀) : ∃ ws, StrsAre ws noneL ∧ h₀.IsList 123 ws.toArray :=
  ⟨_, .cons _ _ (.cons _ _ (.cons _ _ (.cons _ _ (.cons _ _ (.cons _ _ (.cons _ _ (.cons _ _ .nil))))))), _, X 123 _ rfl, rfl, _, rfl⟩
theorem add_names {D : Addr} {ys : List Value} {c : Nat} {Q : Value → Shared → Prop} (F : Fr h₀ L s.heap m) (X : (hd.heap_39 w.params).In h₀) (N : News h₀ L s.heap news) (hm : (D, listOf ys.toArray c) ∈ news) (hs : StrsAre ys (rowStrs.map headOf))
    (h : ∀ D' zs h', NamesL zs → Fr h₀ L h' m → News h₀ L h' ((D', listOf zs.toArray 0) :: news) → Q (.ref D') { s with heap := h' }) :
    wpAny (model prog w) A (binaryOp .Add (.ref D) (.ref 123)) Q E s := by
  obtain ⟨ws, hw, o, ho, r⟩ := none_list X
  refine add_lists F N ⟨_, (N _ hm).1, rfl, _, rfl⟩ ⟨o, F.keep _ _ ho, r⟩ (fun h' F' N' => h _ _ h' ⟨strs_app hs hw⟩ F' N') ?_
  have e1 := hs.length
  have e2 := hw.length
  rw [e1, e2]; decide
end
end

section
open PySem PySem.W PyProof.Rows PySem.Calls
/-- the law's frame between two turns: what the turns leave is not asked -/
noncomputable def lawMap (Dn Dm : Addr) (u : Str → Option Value) : Str → Option Value := fun y => if y = Str.ofString "numbers" then some (.ref Dm) else if y = Str.ofString "names" then some (.ref Dn) else u y
theorem lawMap_self {Dn Dm : Addr} {m : Str → Option Value} (h1 : m (Str.ofString "names") = some (.ref Dn)) (h2 : m (Str.ofString "numbers") = some (.ref Dm)) : lawMap Dn Dm m = m := by
  funext y; unfold lawMap; split
  · rename_i e; rw [e, h2]
  · split
    · rename_i e; rw [e, h1]
    · rfl
section
variable {prog : Program} {w : World} {A : Around} {E : Value → Shared → Prop} {s : Shared} {h₀ : Heap} {env : Env} {body : List Stmt} {Q : Flow → Shared → Prop} {x : Str} {px : Pos} {Dn Dm I : Addr} {news : List (Addr × Obj)}
def LawTurn (prog : Program) (w : World) (A : Around) (E : Value → Shared → Prop) (s : Shared) (h₀ : Heap) (env : Env) (body : List Stmt) (Q : Flow → Shared → Prop) (x : Str) (px : Pos) (Dn Dm : Addr) (news : List (Addr × Obj)) (k : Nat) : Prop :=
  ∀ (at_ : Int) t u h tk I o, 0 ≤ at_ → at_ ≤ k → (∀ p ∈ news, p.1 < I) → o.cls = .type "range_iterator" → Fr h₀ env.locals h (lawMap Dn Dm u) → News h₀ env.locals h ((I, o) :: news) →
    wpAny (model prog w) A (assign (.Name x px) env (.int at_ t)) (fun _ s₂ => wpAny (model prog w) A (execs body env) (UnrPostW h₀ env.locals { s with heap := h, toks := tk } [(I, o)] (fun m' n' => n' = news ∧ m' (Str.ofString "names") = some (.ref Dn) ∧ m' (Str.ofString "numbers") = some (.ref Dm)) Q) E s₂) E { s with heap := h, toks := tk }
theorem law_rest {k : Nat} (hI : ∀ p ∈ news, p.1 < I) (turn : LawTurn prog w A E s h₀ env body Q x px Dn Dm news k)
    (fin : ∀ m' h t, Fr h₀ env.locals h m' → News h₀ env.locals h news → Q .next { s with heap := h, toks := t }) :
    ∀ (ats : List Int), (∀ a ∈ ats, 0 ≤ a ∧ a ≤ k) → ∀ u, ItemsRest prog w A E h₀ env (.Name x px) body Q s [(I, "range_iterator")] [] (ats.map fun a => .tok fun t => .int a t) (lawMap Dn Dm u) news
  | [], _, u => ItemsRest.zero fun h t F N => fin _ h t F N
  | a :: ats, ha, u => ItemsRest.tok fun t h tk F => AllObj.cons fun o ho => AllObj.nil fun N => by
    refine wpAny_mono (turn a t u h tk I o (ha a (.head _)).1 (ha a (.head _)).2 hI ho F N) (fun _ s₂ h₂ => wpAny_mono h₂ (fun f s₃ h₃ => unrEnd_mono (fun m' n' k => ?_) f s₃ h₃) fun _ _ e => e) fun _ _ e => e
    obtain ⟨e, h1, h2⟩ := k
    rw [e, ← lawMap_self h1 h2]
    exact ⟨trivial, law_rest hI turn fin ats (fun b hb => ha b (.tail _ hb)) m'⟩
theorem range_small : ∀ k, k < 19 → Builtin.Range.small 0 ((k + (1 + 1 + 1) : Nat) - 2 : Int) 3 = true := by decide
theorem law_loop {r : Addr} {k : Nat} {t u v : Tok} {m : Str → Option Value} (hk : k ≤ 18) (hh : A.handled = none) (F : Fr h₀ env.locals s.heap m) (N : News h₀ env.locals s.heap news) (h1 : m (Str.ofString "names") = some (.ref Dn)) (h2 : m (Str.ofString "numbers") = some (.ref Dm))
    (hr : IsRange s.heap r 0 ((k + (1 + 1 + 1) : Nat) - 2 : Int) 3 t u v)
    (turn : ∀ s Q E, LawTurn prog w A E s h₀ env body Q x px Dn Dm news k)
    (fin : ∀ m' h t, Fr h₀ env.locals h m' → News h₀ env.locals h news → Q .next { s with heap := h, toks := t }) :
    wpAny (model prog w) A (pyIter (.ref r)) (fun it s₂ => TurnsAt prog w A h₀ env (.Name x px) body Q E it s₂) E s := by
  refine wpAny_pyIter_range hr (range_small k (by omega)) ?_
  obtain ⟨n, hn⟩ : ∃ n : Nat, Builtin.Range.rangeSize 0 ((k + (1 + 1 + 1) : Nat) - 2 : Int) 3 = (n : Int) := ⟨_, rangeSize_toNat _ _ _⟩
  have items : ItemsRest prog w A E h₀ env (.Name x px) body Q s [(s.heap.objs.size, "range_iterator")] [] (((List.range n).map fun (i : Nat) => (0 + (i : Int) * 3)).map fun a => .tok fun t => .int a t) m news := by
    rw [← lawMap_self h1 h2]
    refine law_rest (fun p hp => Heap.lt_size (N p hp).1) (turn _ _ _) fin _ (fun a ha => ?_) m
    obtain ⟨i, hi, rfl⟩ := List.mem_map.mp ha
    have hi' := List.mem_range.mp hi
    have := start_inside (len := ((k + (1 + 1 + 1) : Nat) - 2 : Int)) (c := 3) (v := i) (by decide) (by omega) (by omega) (by rw [hn]; omega)
    omega
  refine ktu_core (tk0 := s.toks) (keep := []) (KTurns.ofWalks ((Walks.range hh s.heap.objs.size 0 3 n).bound) fun i v s Q E st q => wpAny_pure q) (by simp) (fun i v h hp => ?_) (fun i h st => ?_) (fun b hb => ?_) (fun b hb => by simpa using hb) (fun b hb => ?_) ?_ (fun p hp hI => ?_) ?_ (F.push _) (fun p hp => ⟨Heap.get?_push_of_some _ (N p hp).1, (N p hp).2⟩) trivial items
  · obtain ⟨hi, z⟩ : i < n ∧ ∃ t, v = .int (0 + (i : Int) * 3) t := hp
    obtain ⟨t, rfl⟩ := z
    exact ⟨.tok fun t => .int (0 + (i : Int) * 3) t, by simp [hi], t, rfl⟩
  · exact ⟨[(s.heap.objs.size, _)], ⟨⟨rfl, rfl⟩, trivial⟩, fun p hp => by rw [List.mem_singleton.mp hp]; exact st⟩
  · have hb' : b = s.heap.objs.size := by simpa using hb
    rw [hb']
    exact ⟨List.mem_cons_self .., next_is_new F⟩
  · have hb' : b = s.heap.objs.size := by simpa using hb
    exact .inl (by simp [hb'])
  · intro hI
    have e := List.mem_singleton.mp hI
    exact absurd F.ns.lt (e ▸ Nat.lt_irrefl _)
  · exact absurd (Heap.lt_size (N p hp).1) ((List.mem_singleton.mp hI) ▸ Nat.lt_irrefl _)
  · show IsRangeIter _ _ _ _ _
    rw [hn]
    simpa using Heap.get?_push_size _ rfl
end
end

section
open PySem PySem.W PyProof.Rows PySem.Calls
theorem kw_D8_1 : True := by
  k_with_none
  k_with "m:exec Raise some none" =>
    (k_here; (with_reducible show wpAny _ _ (exec (Stmt.Raise (some (Expr.Call (Expr.Name ("CheckFault" : Str) _) _ _ _)) none _) _) _ _ _); refine Raise_thrown rfl ?_)
  k_with "m:call ref" =>
    (k_here; (with_reducible show wpAny _ _ (call (Value.ref 44) [Value.str _ _]) _ _ _); k_dflt (refine' ct_fault ?kwB ?kwF ?kwX ?kwT ?kwhk ?kwhd ?kwhu ?kwN ?_; (case kwB => k_asm); (case kwF => k_asm); (case kwX => k_asm); (case kwT => k_asm); (case kwN => k_asm); (case kwhk => first | exact rfl | assumption); (case kwhd => first | omega | ((try simp only [depth_under_make, depth_under_kw, depth_in1, depth_deeper, depth_caller]); (try dsimp only [ktrTop]); omega)); (case kwhu => first | omega | ((try simp only [units_in1, units_deeper, Around.mark_units, units_caller]); (try dsimp only [ktrTop]); omega)); k_whole); intro e' ta' h' tk' fa' F' N'; (obtain ⟨dd', sl', he'⟩ := fa'.there))
  k_with "m:Thrown" =>
    (refine ⟨_, _, _, _, rfl, by k_in, by kts_isx, by assumption, ?_⟩)
  k_with "m:leaving ref" =>
    (k_here; first
      | ((rename FaultK _ _ _ _ _ _ _ _ => fa9); refine' leave_fault ?kwK fa9 ?kwF ?kwN ?_ rfl; (case kwK => assumption); (case kwF => assumption); (case kwN => k_asm); k_whole; intro h' S' R' U'; (try dsimp only at S' R' U' ⊢))
      | (refine' leave_onS ?kwk1 ?kwk2 ?kwk3 ?kwk4 ?_; (case kwk3 => assumption); (case kwk2 => assumption); (case kwk1 => assumption); (case kwk4 => assumption); k_whole; intro h' S' R' U'; (try dsimp only at S' R' U' ⊢)))
  k_with "m:call ref" =>
    (k_here; (with_reducible show wpAny _ _ (call (Value.ref 61) _) _ _ _); k_dflt (refine' kgeneric1 nm ?kwB ?kwF ?kwX ?kwT ?kwhk ?kwhd ?kwhu ?kwN ?_; (case kwB => k_asm); (case kwF => k_asm); (case kwX => k_asm); (case kwT => k_asm); (case kwN => k_asm); (case kwhk => first | exact rfl | assumption); (case kwhd => first | omega | ((try simp only [depth_under_make, depth_under_kw, depth_in1, depth_deeper, depth_caller]); (try dsimp only [ktrTop]); omega)); (case kwhu => first | omega | ((try simp only [units_in1, units_deeper, Around.mark_units, units_caller]); (try dsimp only [ktrTop]); omega)); all_goals intros))
  k_with "m:call ref" =>
    (k_here; (with_reducible show wpAny _ _ (call (Value.ref 68) _) _ _ _); k_dflt (refine' kspecific nm ?kwB ?kwF ?kwX ?kwT ?kwhk ?kwhd ?kwhu ?kwN ?_ ?_; (case kwB => k_asm); (case kwF => k_asm); (case kwX => k_asm); (case kwT => k_asm); (case kwN => k_asm); (case kwhk => first | exact rfl | assumption); (case kwhd => first | omega | ((try simp only [depth_under_make, depth_under_kw, depth_in1, depth_deeper, depth_caller]); (try dsimp only [ktrTop]); omega)); (case kwhu => first | omega | ((try simp only [units_in1, units_deeper, Around.mark_units, units_caller]); (try dsimp only [ktrTop]); omega)); all_goals intros))
  k_with "m:compareOp In str ref" =>
    (k_here; k_dflt (refine' in_gen ?kwG ?kwD ?kws ?_ ?_; (case kwD => exact News.get (by k_asm) (by k_mem)); (case kwG => assumption); (case kws => assumption); all_goals intros))
  k_with "m:compareOp In str ref" =>
    (k_here; k_dflt (refine' in_has ?kwH ?kwD ?kws ?_; (case kwD => exact News.get (by k_asm) (by k_mem)); (case kwH => assumption); (case kws => assumption); k_whole; (try dsimp only [Option.isSome_some, Option.isSome_none])))
  k_with "m:subscriptTail" =>
    (k_here; (with_reducible show wpAny _ _ (subscriptTail _ _ (Value.ref _) (Value.str _ _)) _ _ _); k_dflt (refine' item_has ?kwH ?kwD ?_; (case kwD => exact News.get (by k_asm) (by k_mem)); (case kwH => assumption); k_whole))
  k_with "m:getMethod ref" =>
    (k_here; (with_reducible show wpAny _ _ (getMethod (Value.ref _) (Str.ofString "get") _) _ _ _); k_dflt (refine' getMethod_has ?kwH ?kwD ?_; (case kwD => exact News.get (by k_asm) (by k_mem)); (case kwH => assumption); k_whole))
  k_with "m:call builtin:dict.get" =>
    (k_here; (with_reducible show wpAny _ _ (call (Value.builtin "dict.get") [Value.ref _, Value.str _ _]) _ _ _); k_dflt (refine' get_has ?kwH ?kwD ?kws ?_; (case kwD => exact News.get (by k_asm) (by k_mem)); (case kwH => assumption); (case kws => assumption); k_whole; (try dsimp only [Option.getD_some, Option.getD_none])))
  trivial

noncomputable def barText : Str := Str.mk #[73, 78, 84, 32, 82, 69, 65, 76, 32, 68, 66, 76, 69, 32, 67, 77, 80, 76, 88, 32, 73, 70, 73, 88, 32, 73, 68, 73, 78, 84, 32, 70, 76, 79, 65, 84, 32, 83, 78, 71, 76, 32, 73, 67, 72, 65, 82, 32, 67, 72, 65, 82, 32, 77, 65, 88, 32, 77, 73, 78, 32, 77, 65, 88, 48, 32, 65, 77, 65, 88, 49, 32, 68, 77, 65, 88, 49, 32, 65, 77, 65, 88, 48, 32, 77, 65, 88, 49, 32, 77, 73, 78, 48, 32, 65, 77, 73, 78, 49, 32, 68, 77, 73, 78, 49, 32, 65, 77, 73, 78, 48, 32, 77, 73, 78, 49, 32, 76, 71, 69, 32, 76, 71, 84, 32, 76, 76, 69, 32, 76, 76, 84, 32, 76, 79, 71, 32, 76, 79, 71, 49, 48]
noncomputable def barWords : List Str := [Str.mk #[73, 78, 84], Str.mk #[82, 69, 65, 76], Str.mk #[68, 66, 76, 69], Str.mk #[67, 77, 80, 76, 88], Str.mk #[73, 70, 73, 88], Str.mk #[73, 68, 73, 78, 84], Str.mk #[70, 76, 79, 65, 84], Str.mk #[83, 78, 71, 76], Str.mk #[73, 67, 72, 65, 82], Str.mk #[67, 72, 65, 82], Str.mk #[77, 65, 88], Str.mk #[77, 73, 78], Str.mk #[77, 65, 88, 48], Str.mk #[65, 77, 65, 88, 49], Str.mk #[68, 77, 65, 88, 49], Str.mk #[65, 77, 65, 88, 48], Str.mk #[77, 65, 88, 49], Str.mk #[77, 73, 78, 48], Str.mk #[65, 77, 73, 78, 49], Str.mk #[68, 77, 73, 78, 49], Str.mk #[65, 77, 73, 78, 48], Str.mk #[77, 73, 78, 49], Str.mk #[76, 71, 69], Str.mk #[76, 71, 84], Str.mk #[76, 76, 69], Str.mk #[76, 76, 84], Str.mk #[76, 79, 71], Str.mk #[76, 79, 71, 49, 48]]
theorem bp0 : (Str.ofString "INT REAL DBLE CMPLX IFIX IDINT FLOAT SNGL ICHAR CHAR MAX MIN MAX0 AMAX1 DMAX1 AMAX0 MAX1 MIN0 AMIN1 DMIN1 AMIN0 ").cps.toList = [73, 78, 84, 32, 82, 69, 65, 76, 32, 68, 66, 76, 69, 32, 67, 77, 80, 76, 88, 32, 73, 70, 73, 88, 32, 73, 68, 73, 78, 84, 32, 70, 76, 79, 65, 84, 32, 83, 78, 71, 76, 32, 73, 67, 72, 65, 82, 32, 67, 72, 65, 82, 32, 77, 65, 88, 32, 77, 73, 78, 32, 77, 65, 88, 48, 32, 65, 77, 65, 88, 49, 32, 68, 77, 65, 88, 49, 32, 65, 77, 65, 88, 48, 32, 77, 65, 88, 49, 32, 77, 73, 78, 48, 32, 65, 77, 73, 78, 49, 32, 68, 77, 73, 78, 49, 32, 65, 77, 73, 78, 48, 32] := by decide +kernel
theorem bp1 : (Str.ofString "MIN1 LGE LGT LLE LLT LOG LOG10").cps.toList = [77, 73, 78, 49, 32, 76, 71, 69, 32, 76, 71, 84, 32, 76, 76, 69, 32, 76, 76, 84, 32, 76, 79, 71, 32, 76, 79, 71, 49, 48] := by decide +kernel
theorem btext_eq : Str.ofString "INT REAL DBLE CMPLX IFIX IDINT FLOAT SNGL ICHAR CHAR MAX MIN MAX0 AMAX1 DMAX1 AMAX0 MAX1 MIN0 AMIN1 DMIN1 AMIN0 " ++ Str.ofString "MIN1 LGE LGT LLE LLT LOG LOG10" = barText := str_list (by simp only [Str.cps_append, Array.toList_append, bp0, bp1]; rfl)
theorem split_bar : Txt.split barText (Str.ofString " ") = barWords := split_is (by decide +kernel)
theorem sz_bar : barText.length + 2 ≤ sizeLine := by decide +kernel
theorem ct_btext {w : World} {p : Program} {loose : List Str} {mean : ExcName → Option Value} {mg mb : Str → Option Value} {news : List (Addr × Obj)}
  {dp un : Nat} {gd : Option (List Code)} {cn : Str} {cs : Scope} {a : Addr} {ccd : Value} {cl : List (Str × Addr)} {outer : List Env} {A₀ : Around} {base h₀ : Heap} {L : Addr} {m : Str → Option Value} {s : Shared} {Q E : Value → Shared → Prop} :
  Below A₀ base outer h₀ → Fr h₀ L s.heap m → (hd.heap_39 w.params).In h₀ → Top p loose mean mg mb h₀ → cs.kind = .function → dp < 350 → un < 100 → News h₀ L s.heap news →
  (∀ t h' tk', Fr h₀ L h' m → News h₀ L h' news → Q (.str barText t) { s with heap := h', toks := tk' }) →
  wpAny (model Challenge.rw_no0227_01.row.prog w) (ktrTop dp un gd cn cs L a ccd cl outer) (call (.ref 130) []) Q E s := by
  k_fill
  intro B F X T hk hdp hun N hret
  refine wpAny_call ?_
  k_dflt cell_enter
  k_steps
  all_goals
    have e : ∀ x t sh, x = barText → Q (.str barText t) sh → Q (.str x t) sh := fun x t sh e h => e ▸ h
    exact e _ _ _ btext_eq (hret _ _ _ (by assumption) (by assumption))
section
variable {prog : Program} {w : World} {A : Around} {E : Value → Shared → Prop} {s : Shared} {h₀ : Heap} {L : Addr} {m : Str → Option Value} {news : List (Addr × Obj)}
theorem item_names {D : Addr} {zs : List Value} {c : Nat} {value slice : Expr} {i : Int} {u : Tok} {Q : Value → Shared → Prop} (N : News h₀ L s.heap news) (hm : (D, listOf zs.toArray c) ∈ news) (hs : NamesL zs) (h0 : 0 ≤ i) (h1 : i < 93) (h : ∀ nm t', nm ∈ namesAll → Q (.str nm t') s)
    (hs' : subscripted slice false (.ref D) (.int i u) = operate [.ref D, .int i u] (getItem (.ref D) (.int i u)) := by with_unfolding_all rfl) :
    wpAny (model prog w) A (subscriptTail value slice (.ref D) (.int i u)) Q E s := by
  have hlen : namesAll.length = 93 := by decide +kernel
  refine KTb.item_list ⟨_, (N _ hm).1, rfl, _, rfl⟩ hs.out h0 (by rw [hlen]; exact h1) (by omega) (fun t' hl => h _ t' ?_) hs'
  rw [List.getD_eq_getElem?_getD, List.getElem?_eq_getElem hl]
  exact List.getElem_mem hl
end
end

section
open PySem PySem.W PyProof.Rows PySem.Calls
abbrev RowT : Type := Str × Option Str × Str × Str
noncomputable def combo0 : List (Str × Option (Str × List Int) × Option RowT) := [
  (Str.mk #[73, 78, 84], some (Str.mk #[73, 78, 84], [0, 1, 2, 3]), some ((Str.mk #[73, 78, 84], none, Str.mk #[48, 49, 50, 51], Str.mk #[48]))),
  (Str.mk #[82, 69, 65, 76], some (Str.mk #[82, 69, 65, 76], [0, 1, 2, 3]), some ((Str.mk #[82, 69, 65, 76], none, Str.mk #[48, 49, 50, 51], Str.mk #[49]))),
  (Str.mk #[68, 66, 76, 69], some (Str.mk #[68, 66, 76, 69], [0, 1, 2, 3]), some ((Str.mk #[68, 66, 76, 69], none, Str.mk #[48, 49, 50, 51], Str.mk #[50]))),
  (Str.mk #[67, 77, 80, 76, 88], some (Str.mk #[67, 77, 80, 76, 88], [0, 1, 2, 3]), some ((Str.mk #[67, 77, 80, 76, 88], none, Str.mk #[48, 49, 50, 51], Str.mk #[51]))),
  (Str.mk #[65, 73, 78, 84], some (Str.mk #[65, 73, 78, 84], [1, 2]), some ((Str.mk #[65, 73, 78, 84], none, Str.mk #[49, 50], Str.mk #[61]))),
  (Str.mk #[65, 78, 73, 78, 84], some (Str.mk #[65, 78, 73, 78, 84], [1, 2]), some ((Str.mk #[65, 78, 73, 78, 84], none, Str.mk #[49, 50], Str.mk #[61]))),
  (Str.mk #[78, 73, 78, 84], some (Str.mk #[78, 73, 78, 84], [1, 2]), some ((Str.mk #[78, 73, 78, 84], none, Str.mk #[49, 50], Str.mk #[48]))),
  (Str.mk #[65, 66, 83], some (Str.mk #[65, 66, 83], [0, 1, 2, 3]), some ((Str.mk #[65, 66, 83], none, Str.mk #[48, 49, 50, 51], Str.mk #[61]))),
  (Str.mk #[77, 79, 68], some (Str.mk #[77, 79, 68], [0, 1, 2]), some ((Str.mk #[77, 79, 68], none, Str.mk #[48, 49, 50], Str.mk #[61]))),
  (Str.mk #[83, 73, 71, 78], some (Str.mk #[83, 73, 71, 78], [0, 1, 2]), some ((Str.mk #[83, 73, 71, 78], none, Str.mk #[48, 49, 50], Str.mk #[61]))),
  (Str.mk #[68, 73, 77], some (Str.mk #[68, 73, 77], [0, 1, 2]), some ((Str.mk #[68, 73, 77], none, Str.mk #[48, 49, 50], Str.mk #[61]))),
  (Str.mk #[77, 65, 88], some (Str.mk #[77, 65, 88], [0, 1, 2]), some ((Str.mk #[77, 65, 88], none, Str.mk #[48, 49, 50], Str.mk #[61]))),
  (Str.mk #[77, 73, 78], some (Str.mk #[77, 73, 78], [0, 1, 2]), some ((Str.mk #[77, 73, 78], none, Str.mk #[48, 49, 50], Str.mk #[61]))),
  (Str.mk #[83, 81, 82, 84], some (Str.mk #[83, 81, 82, 84], [1, 2, 3]), some ((Str.mk #[83, 81, 82, 84], none, Str.mk #[49, 50, 51], Str.mk #[61]))),
  (Str.mk #[69, 88, 80], some (Str.mk #[69, 88, 80], [1, 2, 3]), some ((Str.mk #[69, 88, 80], none, Str.mk #[49, 50, 51], Str.mk #[61]))),
  (Str.mk #[76, 79, 71], some (Str.mk #[76, 79, 71], [1, 2, 3]), some ((Str.mk #[76, 79, 71], none, Str.mk #[49, 50, 51], Str.mk #[61]))),
  (Str.mk #[76, 79, 71, 49, 48], some (Str.mk #[76, 79, 71, 49, 48], [1, 2]), some ((Str.mk #[76, 79, 71, 49, 48], none, Str.mk #[49, 50], Str.mk #[61]))),
  (Str.mk #[83, 73, 78], some (Str.mk #[83, 73, 78], [1, 2, 3]), some ((Str.mk #[83, 73, 78], none, Str.mk #[49, 50, 51], Str.mk #[61]))),
  (Str.mk #[67, 79, 83], some (Str.mk #[67, 79, 83], [1, 2, 3]), some ((Str.mk #[67, 79, 83], none, Str.mk #[49, 50, 51], Str.mk #[61]))),
  (Str.mk #[84, 65, 78], some (Str.mk #[84, 65, 78], [1, 2]), some ((Str.mk #[84, 65, 78], none, Str.mk #[49, 50], Str.mk #[61]))),
  (Str.mk #[65, 83, 73, 78], some (Str.mk #[65, 83, 73, 78], [1, 2]), some ((Str.mk #[65, 83, 73, 78], none, Str.mk #[49, 50], Str.mk #[61]))),
  (Str.mk #[65, 67, 79, 83], some (Str.mk #[65, 67, 79, 83], [1, 2]), some ((Str.mk #[65, 67, 79, 83], none, Str.mk #[49, 50], Str.mk #[61]))),
  (Str.mk #[65, 84, 65, 78], some (Str.mk #[65, 84, 65, 78], [1, 2]), some ((Str.mk #[65, 84, 65, 78], none, Str.mk #[49, 50], Str.mk #[61]))),
  (Str.mk #[65, 84, 65, 78, 50], some (Str.mk #[65, 84, 65, 78, 50], [1, 2]), some ((Str.mk #[65, 84, 65, 78, 50], none, Str.mk #[49, 50], Str.mk #[61])))]
noncomputable def combo1 : List (Str × Option (Str × List Int) × Option RowT) := [
  (Str.mk #[83, 73, 78, 72], some (Str.mk #[83, 73, 78, 72], [1, 2]), some ((Str.mk #[83, 73, 78, 72], none, Str.mk #[49, 50], Str.mk #[61]))),
  (Str.mk #[67, 79, 83, 72], some (Str.mk #[67, 79, 83, 72], [1, 2]), some ((Str.mk #[67, 79, 83, 72], none, Str.mk #[49, 50], Str.mk #[61]))),
  (Str.mk #[84, 65, 78, 72], some (Str.mk #[84, 65, 78, 72], [1, 2]), some ((Str.mk #[84, 65, 78, 72], none, Str.mk #[49, 50], Str.mk #[61]))),
  (Str.mk #[73, 70, 73, 88], some (Str.mk #[73, 78, 84], [1]), some ((Str.mk #[73, 70, 73, 88], some (Str.mk #[73, 78, 84]), Str.mk #[49], Str.mk #[48]))),
  (Str.mk #[73, 68, 73, 78, 84], some (Str.mk #[73, 78, 84], [2]), some ((Str.mk #[73, 68, 73, 78, 84], some (Str.mk #[73, 78, 84]), Str.mk #[50], Str.mk #[48]))),
  (Str.mk #[70, 76, 79, 65, 84], some (Str.mk #[82, 69, 65, 76], [0]), some ((Str.mk #[70, 76, 79, 65, 84], some (Str.mk #[82, 69, 65, 76]), Str.mk #[48], Str.mk #[49]))),
  (Str.mk #[83, 78, 71, 76], some (Str.mk #[82, 69, 65, 76], [2]), some ((Str.mk #[83, 78, 71, 76], some (Str.mk #[82, 69, 65, 76]), Str.mk #[50], Str.mk #[49]))),
  (Str.mk #[65, 77, 65, 88, 48], some (Str.mk #[65, 77, 65, 88, 48], [0]), some ((Str.mk #[65, 77, 65, 88, 48], some (Str.mk #[65, 77, 65, 88, 48]), Str.mk #[48], Str.mk #[49]))),
  (Str.mk #[77, 65, 88, 49], some (Str.mk #[77, 65, 88, 49], [1]), some ((Str.mk #[77, 65, 88, 49], some (Str.mk #[77, 65, 88, 49]), Str.mk #[49], Str.mk #[48]))),
  (Str.mk #[65, 77, 73, 78, 48], some (Str.mk #[65, 77, 73, 78, 48], [0]), some ((Str.mk #[65, 77, 73, 78, 48], some (Str.mk #[65, 77, 73, 78, 48]), Str.mk #[48], Str.mk #[49]))),
  (Str.mk #[77, 73, 78, 49], some (Str.mk #[77, 73, 78, 49], [1]), some ((Str.mk #[77, 73, 78, 49], some (Str.mk #[77, 73, 78, 49]), Str.mk #[49], Str.mk #[48]))),
  (Str.mk #[73, 67, 72, 65, 82], some (Str.mk #[73, 67, 72, 65, 82], [5]), some ((Str.mk #[73, 67, 72, 65, 82], some (Str.mk #[73, 67, 72, 65, 82]), Str.mk #[53], Str.mk #[48]))),
  (Str.mk #[67, 72, 65, 82], some (Str.mk #[67, 72, 65, 82], [0]), some ((Str.mk #[67, 72, 65, 82], some (Str.mk #[67, 72, 65, 82]), Str.mk #[48], Str.mk #[53]))),
  (Str.mk #[68, 73, 78, 84], some (Str.mk #[65, 73, 78, 84], [2]), some ((Str.mk #[68, 73, 78, 84], some (Str.mk #[65, 73, 78, 84]), Str.mk #[50], Str.mk #[50]))),
  (Str.mk #[68, 78, 73, 78, 84], some (Str.mk #[65, 78, 73, 78, 84], [2]), some ((Str.mk #[68, 78, 73, 78, 84], some (Str.mk #[65, 78, 73, 78, 84]), Str.mk #[50], Str.mk #[50]))),
  (Str.mk #[73, 68, 78, 73, 78, 84], some (Str.mk #[78, 73, 78, 84], [2]), some ((Str.mk #[73, 68, 78, 73, 78, 84], some (Str.mk #[78, 73, 78, 84]), Str.mk #[50], Str.mk #[48]))),
  (Str.mk #[73, 65, 66, 83], some (Str.mk #[65, 66, 83], [0]), some ((Str.mk #[73, 65, 66, 83], some (Str.mk #[65, 66, 83]), Str.mk #[48], Str.mk #[48]))),
  (Str.mk #[68, 65, 66, 83], some (Str.mk #[65, 66, 83], [2]), some ((Str.mk #[68, 65, 66, 83], some (Str.mk #[65, 66, 83]), Str.mk #[50], Str.mk #[50]))),
  (Str.mk #[67, 65, 66, 83], some (Str.mk #[65, 66, 83], [3]), some ((Str.mk #[67, 65, 66, 83], some (Str.mk #[65, 66, 83]), Str.mk #[51], Str.mk #[49]))),
  (Str.mk #[65, 77, 79, 68], some (Str.mk #[77, 79, 68], [1]), some ((Str.mk #[65, 77, 79, 68], some (Str.mk #[77, 79, 68]), Str.mk #[49], Str.mk #[49]))),
  (Str.mk #[68, 77, 79, 68], some (Str.mk #[77, 79, 68], [2]), some ((Str.mk #[68, 77, 79, 68], some (Str.mk #[77, 79, 68]), Str.mk #[50], Str.mk #[50]))),
  (Str.mk #[73, 83, 73, 71, 78], some (Str.mk #[83, 73, 71, 78], [0]), some ((Str.mk #[73, 83, 73, 71, 78], some (Str.mk #[83, 73, 71, 78]), Str.mk #[48], Str.mk #[48]))),
  (Str.mk #[68, 83, 73, 71, 78], some (Str.mk #[83, 73, 71, 78], [2]), some ((Str.mk #[68, 83, 73, 71, 78], some (Str.mk #[83, 73, 71, 78]), Str.mk #[50], Str.mk #[50]))),
  (Str.mk #[73, 68, 73, 77], some (Str.mk #[68, 73, 77], [0]), some ((Str.mk #[73, 68, 73, 77], some (Str.mk #[68, 73, 77]), Str.mk #[48], Str.mk #[48])))]
noncomputable def combo2 : List (Str × Option (Str × List Int) × Option RowT) := [
  (Str.mk #[68, 68, 73, 77], some (Str.mk #[68, 73, 77], [2]), some ((Str.mk #[68, 68, 73, 77], some (Str.mk #[68, 73, 77]), Str.mk #[50], Str.mk #[50]))),
  (Str.mk #[68, 80, 82, 79, 68], some (Str.mk #[68, 80, 82, 79, 68], [1]), some ((Str.mk #[68, 80, 82, 79, 68], some (Str.mk #[68, 80, 82, 79, 68]), Str.mk #[49], Str.mk #[50]))),
  (Str.mk #[77, 65, 88, 48], some (Str.mk #[77, 65, 88], [0]), some ((Str.mk #[77, 65, 88, 48], some (Str.mk #[77, 65, 88]), Str.mk #[48], Str.mk #[48]))),
  (Str.mk #[65, 77, 65, 88, 49], some (Str.mk #[77, 65, 88], [1]), some ((Str.mk #[65, 77, 65, 88, 49], some (Str.mk #[77, 65, 88]), Str.mk #[49], Str.mk #[49]))),
  (Str.mk #[68, 77, 65, 88, 49], some (Str.mk #[77, 65, 88], [2]), some ((Str.mk #[68, 77, 65, 88, 49], some (Str.mk #[77, 65, 88]), Str.mk #[50], Str.mk #[50]))),
  (Str.mk #[77, 73, 78, 48], some (Str.mk #[77, 73, 78], [0]), some ((Str.mk #[77, 73, 78, 48], some (Str.mk #[77, 73, 78]), Str.mk #[48], Str.mk #[48]))),
  (Str.mk #[65, 77, 73, 78, 49], some (Str.mk #[77, 73, 78], [1]), some ((Str.mk #[65, 77, 73, 78, 49], some (Str.mk #[77, 73, 78]), Str.mk #[49], Str.mk #[49]))),
  (Str.mk #[68, 77, 73, 78, 49], some (Str.mk #[77, 73, 78], [2]), some ((Str.mk #[68, 77, 73, 78, 49], some (Str.mk #[77, 73, 78]), Str.mk #[50], Str.mk #[50]))),
  (Str.mk #[76, 69, 78], some (Str.mk #[76, 69, 78], [5]), some ((Str.mk #[76, 69, 78], some (Str.mk #[76, 69, 78]), Str.mk #[53], Str.mk #[48]))),
  (Str.mk #[73, 78, 68, 69, 88], some (Str.mk #[73, 78, 68, 69, 88], [5]), some ((Str.mk #[73, 78, 68, 69, 88], some (Str.mk #[73, 78, 68, 69, 88]), Str.mk #[53], Str.mk #[48]))),
  (Str.mk #[65, 73, 77, 65, 71], some (Str.mk #[65, 73, 77, 65, 71], [3]), some ((Str.mk #[65, 73, 77, 65, 71], some (Str.mk #[65, 73, 77, 65, 71]), Str.mk #[51], Str.mk #[49]))),
  (Str.mk #[67, 79, 78, 74, 71], some (Str.mk #[67, 79, 78, 74, 71], [3]), some ((Str.mk #[67, 79, 78, 74, 71], some (Str.mk #[67, 79, 78, 74, 71]), Str.mk #[51], Str.mk #[51]))),
  (Str.mk #[68, 83, 81, 82, 84], some (Str.mk #[83, 81, 82, 84], [2]), some ((Str.mk #[68, 83, 81, 82, 84], some (Str.mk #[83, 81, 82, 84]), Str.mk #[50], Str.mk #[50]))),
  (Str.mk #[67, 83, 81, 82, 84], some (Str.mk #[83, 81, 82, 84], [3]), some ((Str.mk #[67, 83, 81, 82, 84], some (Str.mk #[83, 81, 82, 84]), Str.mk #[51], Str.mk #[51]))),
  (Str.mk #[68, 69, 88, 80], some (Str.mk #[69, 88, 80], [2]), some ((Str.mk #[68, 69, 88, 80], some (Str.mk #[69, 88, 80]), Str.mk #[50], Str.mk #[50]))),
  (Str.mk #[67, 69, 88, 80], some (Str.mk #[69, 88, 80], [3]), some ((Str.mk #[67, 69, 88, 80], some (Str.mk #[69, 88, 80]), Str.mk #[51], Str.mk #[51]))),
  (Str.mk #[65, 76, 79, 71], some (Str.mk #[76, 79, 71], [1]), some ((Str.mk #[65, 76, 79, 71], some (Str.mk #[76, 79, 71]), Str.mk #[49], Str.mk #[49]))),
  (Str.mk #[68, 76, 79, 71], some (Str.mk #[76, 79, 71], [2]), some ((Str.mk #[68, 76, 79, 71], some (Str.mk #[76, 79, 71]), Str.mk #[50], Str.mk #[50]))),
  (Str.mk #[67, 76, 79, 71], some (Str.mk #[76, 79, 71], [3]), some ((Str.mk #[67, 76, 79, 71], some (Str.mk #[76, 79, 71]), Str.mk #[51], Str.mk #[51]))),
  (Str.mk #[65, 76, 79, 71, 49, 48], some (Str.mk #[76, 79, 71, 49, 48], [1]), some ((Str.mk #[65, 76, 79, 71, 49, 48], some (Str.mk #[76, 79, 71, 49, 48]), Str.mk #[49], Str.mk #[49]))),
  (Str.mk #[68, 76, 79, 71, 49, 48], some (Str.mk #[76, 79, 71, 49, 48], [2]), some ((Str.mk #[68, 76, 79, 71, 49, 48], some (Str.mk #[76, 79, 71, 49, 48]), Str.mk #[50], Str.mk #[50]))),
  (Str.mk #[68, 83, 73, 78], some (Str.mk #[83, 73, 78], [2]), some ((Str.mk #[68, 83, 73, 78], some (Str.mk #[83, 73, 78]), Str.mk #[50], Str.mk #[50]))),
  (Str.mk #[67, 83, 73, 78], some (Str.mk #[83, 73, 78], [3]), some ((Str.mk #[67, 83, 73, 78], some (Str.mk #[83, 73, 78]), Str.mk #[51], Str.mk #[51]))),
  (Str.mk #[68, 67, 79, 83], some (Str.mk #[67, 79, 83], [2]), some ((Str.mk #[68, 67, 79, 83], some (Str.mk #[67, 79, 83]), Str.mk #[50], Str.mk #[50])))]
noncomputable def combo3 : List (Str × Option (Str × List Int) × Option RowT) := [
  (Str.mk #[67, 67, 79, 83], some (Str.mk #[67, 79, 83], [3]), some ((Str.mk #[67, 67, 79, 83], some (Str.mk #[67, 79, 83]), Str.mk #[51], Str.mk #[51]))),
  (Str.mk #[68, 84, 65, 78], some (Str.mk #[84, 65, 78], [2]), some ((Str.mk #[68, 84, 65, 78], some (Str.mk #[84, 65, 78]), Str.mk #[50], Str.mk #[50]))),
  (Str.mk #[68, 65, 83, 73, 78], some (Str.mk #[65, 83, 73, 78], [2]), some ((Str.mk #[68, 65, 83, 73, 78], some (Str.mk #[65, 83, 73, 78]), Str.mk #[50], Str.mk #[50]))),
  (Str.mk #[68, 65, 67, 79, 83], some (Str.mk #[65, 67, 79, 83], [2]), some ((Str.mk #[68, 65, 67, 79, 83], some (Str.mk #[65, 67, 79, 83]), Str.mk #[50], Str.mk #[50]))),
  (Str.mk #[68, 65, 84, 65, 78], some (Str.mk #[65, 84, 65, 78], [2]), some ((Str.mk #[68, 65, 84, 65, 78], some (Str.mk #[65, 84, 65, 78]), Str.mk #[50], Str.mk #[50]))),
  (Str.mk #[68, 65, 84, 65, 78, 50], some (Str.mk #[65, 84, 65, 78, 50], [2]), some ((Str.mk #[68, 65, 84, 65, 78, 50], some (Str.mk #[65, 84, 65, 78, 50]), Str.mk #[50], Str.mk #[50]))),
  (Str.mk #[68, 83, 73, 78, 72], some (Str.mk #[83, 73, 78, 72], [2]), some ((Str.mk #[68, 83, 73, 78, 72], some (Str.mk #[83, 73, 78, 72]), Str.mk #[50], Str.mk #[50]))),
  (Str.mk #[68, 67, 79, 83, 72], some (Str.mk #[67, 79, 83, 72], [2]), some ((Str.mk #[68, 67, 79, 83, 72], some (Str.mk #[67, 79, 83, 72]), Str.mk #[50], Str.mk #[50]))),
  (Str.mk #[68, 84, 65, 78, 72], some (Str.mk #[84, 65, 78, 72], [2]), some ((Str.mk #[68, 84, 65, 78, 72], some (Str.mk #[84, 65, 78, 72]), Str.mk #[50], Str.mk #[50]))),
  (Str.mk #[76, 71, 69], some (Str.mk #[76, 71, 69], [5]), some ((Str.mk #[76, 71, 69], some (Str.mk #[76, 71, 69]), Str.mk #[53], Str.mk #[52]))),
  (Str.mk #[76, 71, 84], some (Str.mk #[76, 71, 84], [5]), some ((Str.mk #[76, 71, 84], some (Str.mk #[76, 71, 84]), Str.mk #[53], Str.mk #[52]))),
  (Str.mk #[76, 76, 69], some (Str.mk #[76, 76, 69], [5]), some ((Str.mk #[76, 76, 69], some (Str.mk #[76, 76, 69]), Str.mk #[53], Str.mk #[52]))),
  (Str.mk #[76, 76, 84], some (Str.mk #[76, 76, 84], [5]), some ((Str.mk #[76, 76, 84], some (Str.mk #[76, 76, 84]), Str.mk #[53], Str.mk #[52]))),
  (Str.mk #[88], none, none),
  (Str.mk #[], none, none),
  (Str.mk #[77, 65, 88, 50], none, none),
  (Str.mk #[115, 105, 110], none, none),
  (Str.mk #[67, 84, 65, 78], none, none),
  (Str.mk #[65, 77, 65, 88], none, none),
  (Str.mk #[68, 67, 77, 80, 76, 88], none, none),
  (Str.mk #[67, 76, 79, 71, 49, 48], none, none)]
noncomputable def combo : List (Str × Option (Str × List Int) × Option RowT) := combo0 ++ combo1 ++ combo2 ++ combo3
theorem combo0_ok : ∀ c ∈ combo0, opLet c.1 = c.2.1 ∧ rowTab.find? (fun q => q.1 == c.1) = c.2.2 := by decide +kernel
theorem combo1_ok : ∀ c ∈ combo1, opLet c.1 = c.2.1 ∧ rowTab.find? (fun q => q.1 == c.1) = c.2.2 := by decide +kernel
theorem combo2_ok : ∀ c ∈ combo2, opLet c.1 = c.2.1 ∧ rowTab.find? (fun q => q.1 == c.1) = c.2.2 := by decide +kernel
theorem combo3_ok : ∀ c ∈ combo3, opLet c.1 = c.2.1 ∧ rowTab.find? (fun q => q.1 == c.1) = c.2.2 := by decide +kernel

theorem combo_ok : ∀ c ∈ combo, opLet c.1 = c.2.1 ∧ rowTab.find? (fun q => q.1 == c.1) = c.2.2 := by
  intro c h
  simp only [combo, List.mem_append] at h
  rcases h with ((h | h) | h) | h
  · exact combo0_ok c h
  · exact combo1_ok c h
  · exact combo2_ok c h
  · exact combo3_ok c h
theorem heads_eq : rowStrs.map (fun r => (cut 58 r.cps.toList).headD []) = rowTab.map (fun p => p.1.cps.toList) := by decide +kernel
theorem head_cut (r : Str) : (headOf r).cps.toList = (cut 58 r.cps.toList).headD [] := by
  have := split_cut r 58
  rw [← this]
  unfold headOf
  show _ = ((Txt.split r (Str.ofString ":")).map (·.cps.toList)).headD []
  cases Txt.split r (Str.ofString ":") <;> rfl
theorem names_eq : namesAll.map (·.cps.toList) = combo.map (fun c => c.1.cps.toList) := by
  unfold namesAll
  rw [List.map_append, List.map_map]
  have e : rowStrs.map ((fun x : Str => x.cps.toList) ∘ headOf) = rowTab.map (fun p => p.1.cps.toList) := by
    rw [← heads_eq]; exact List.map_congr_left fun r _ => head_cut r
  rw [e]; decide +kernel
theorem name_combo {nm : Str} (h : nm ∈ namesAll) : ∃ c ∈ combo, c.1 = nm := by
  have k : nm.cps.toList ∈ namesAll.map (·.cps.toList) := List.mem_map.mpr ⟨nm, h, rfl⟩
  rw [names_eq] at k
  obtain ⟨c, hc, e⟩ := List.mem_map.mp k
  exact ⟨c, hc, str_list e⟩
/-- choose's answer by what the name stands for -/
noncomputable def chooseQ (o : Option (Str × List Int)) (ks : List Int) : Option (Str × List Int × Int) := match o with
  | none => none
  | some p => if countOk p.1 ks.length = true ∧ (∀ v ∈ ks, v = ks.headD 0 ∧ v ∈ p.2) ∧ ¬ ((p.1 == Str.ofString "CMPLX") = true ∧ ks.headD 0 = 3 ∧ (ks.length : Int) = 2) then some (p.1, wantedP p.1 ks, resultP p.1 (ks.headD 0)) else none
noncomputable def inL (k : Int) (lt : Str) : Bool := lt.cps.toList.any fun c => (c : Int) == 48 + k
noncomputable def rowQ (op lt rs nm : Str) (ks : List Int) : Option (Str × List Int × Int) :=
  if countsP op ks.length = true ∧ ks = (List.replicate (ks.length : Int).toNat [ks.getD (Int.toNat 0) 0]).flatten ∧ inL (ks.getD (Int.toNat 0) 0) lt = true then
    if (nm == Str.ofString "CMPLX") = true then if ks = [3, 3] then none else some (nm, if ks = [3] then [3] else (List.replicate (ks.length : Int).toNat [1]).flatten, 3)
    else if (nm == Str.ofString "ABS") = true ∧ (if (rs == Str.ofString "=") = true then ks.getD (Int.toNat 0) 0 else intOf rs) = 3 then some (op, ks, 1) else some (op, ks, if (rs == Str.ofString "=") = true then ks.getD (Int.toNat 0) 0 else intOf rs)
  else none
noncomputable def dueQ (f : Option RowT) (nm : Str) (ks : List Int) : Option (Str × List Int × Int) := match f with
  | none => none
  | some p => rowQ (p.2.1.getD nm) p.2.2.1 p.2.2.2 nm ks
theorem in_rows : ∀ p ∈ rowTab, ∀ k : Fin 6, (Builtin.Str.occurrences p.2.2.1 (Str.mk #[48 + k.val]) 0 p.2.2.1.length 1).isEmpty = !inL (k.val : Int) p.2.2.1 := by decide +kernel
theorem digit : ∀ k : Fin 6, Str.ofString (toString (k.val : Int)) = Str.mk #[48 + k.val] := by decide +kernel
structure KindsOk (ks : List Int) : Prop where
  len : (ks.length : Int) ≤ 4
  bd : ∀ v ∈ ks, 0 ≤ v ∧ v ≤ 5
theorem kind0 {ks : List Int} (h : KindsOk ks) : ∃ k : Fin 6, ks.getD (Int.toNat 0) 0 = (k.val : Int) := by
  have q : 0 ≤ ks.getD (Int.toNat 0) 0 ∧ ks.getD (Int.toNat 0) 0 ≤ 5 := by
    cases ks with
    | nil => exact ⟨by decide, by decide⟩
    | cons a l => exact h.bd a (.head _)
  exact ⟨⟨(ks.getD (Int.toNat 0) 0).toNat, by omega⟩, by show _ = (((ks.getD (Int.toNat 0) 0).toNat : Nat) : Int); omega⟩
theorem due_q {nm : Str} {ks : List Int} (h : KindsOk ks) : dueP nm ks = dueQ (rowTab.find? fun q => q.1 == nm) nm ks := by
  unfold dueP dueQ
  cases e : rowTab.find? (fun q => q.1 == nm) with
  | none => rfl
  | some p =>
    have hp := List.mem_of_find?_eq_some e
    obtain ⟨k, hk⟩ := kind0 h
    show dueRow _ _ _ _ _ = rowQ _ _ _ _ _
    unfold dueRow rowQ
    have i := in_rows p hp k
    rw [← digit k] at i
    rw [← hk] at i
    rw [i]
    simp only [Bool.not_eq_eq_eq_not, Bool.not_false]
theorem choose_q (nm : Str) (ks : List Int) : chooseP nm ks = chooseQ (opLet nm) ks := rfl

theorem law0_ok : ∀ c ∈ combo0, ∀ n : Fin 5, ∀ k : Fin 6, chooseQ c.2.1 (List.replicate n.val (k.val : Int)) = dueQ c.2.2 c.1 (List.replicate n.val (k.val : Int)) := by decide +kernel
theorem law1_ok : ∀ c ∈ combo1, ∀ n : Fin 5, ∀ k : Fin 6, chooseQ c.2.1 (List.replicate n.val (k.val : Int)) = dueQ c.2.2 c.1 (List.replicate n.val (k.val : Int)) := by decide +kernel
theorem law2_ok : ∀ c ∈ combo2, ∀ n : Fin 5, ∀ k : Fin 6, chooseQ c.2.1 (List.replicate n.val (k.val : Int)) = dueQ c.2.2 c.1 (List.replicate n.val (k.val : Int)) := by decide +kernel
theorem law3_ok : ∀ c ∈ combo3, ∀ n : Fin 5, ∀ k : Fin 6, chooseQ c.2.1 (List.replicate n.val (k.val : Int)) = dueQ c.2.2 c.1 (List.replicate n.val (k.val : Int)) := by decide +kernel

theorem law_ok : ∀ c ∈ combo, ∀ n : Fin 5, ∀ k : Fin 6, chooseQ c.2.1 (List.replicate n.val (k.val : Int)) = dueQ c.2.2 c.1 (List.replicate n.val (k.val : Int)) := by
  intro c h
  simp only [combo, List.mem_append] at h
  rcases h with ((h | h) | h) | h
  · exact law0_ok c h
  · exact law1_ok c h
  · exact law2_ok c h
  · exact law3_ok c h
theorem rep_flat (n : Nat) (k : Int) : (List.replicate n [k]).flatten = List.replicate n k := by
  induction n with
  | zero => rfl
  | succ n ih => rw [List.replicate_succ, List.flatten_cons, ih, List.replicate_succ]; rfl
theorem law_eq {nm : Str} {ks : List Int} (h : nm ∈ namesAll) (hk : KindsOk ks) : chooseP nm ks = dueP nm ks := by
  obtain ⟨c, hc, rfl⟩ := name_combo h
  obtain ⟨h1, h2⟩ := combo_ok c hc
  obtain ⟨k, h0⟩ := kind0 hk
  rw [due_q hk, choose_q, h1, h2]
  by_cases e : ks = List.replicate ks.length (k.val : Int)
  · have hn : ks.length < 5 := by have := hk.len; omega
    have := law_ok c hc ⟨ks.length, hn⟩ k
    rw [e]; exact this
  · have hd0 : ks.headD 0 = (k.val : Int) := by rw [← h0, getD0]
    have a : chooseQ c.2.1 ks = none := by
      unfold chooseQ
      cases c.2.1 with
      | none => rfl
      | some p => exact if_neg fun q => e (List.eq_replicate_iff.mpr ⟨rfl, fun v hv => hd0 ▸ (q.2.1 v hv).1⟩)
    have b : dueQ c.2.2 c.1 ks = none := by
      unfold dueQ
      cases c.2.2 with
      | none => rfl
      | some p =>
        refine if_neg fun q => e ?_
        have z := q.2.1
        rw [h0, rep_flat] at z
        exact z
    rw [a, b]

theorem is_rows : ∀ c ∈ combo, isP c.1 = !(noneL.any fun x => x == c.1) := by decide +kernel
theorem may_rows : ∀ c ∈ combo, mayP c.1 = (!(noneL.any fun x => x == c.1) && !(barWords.any fun x => x == c.1)) := by decide +kernel
theorem is_name {nm : Str} (h : nm ∈ namesAll) : isP nm = !(noneL.any fun x => x == nm) := by obtain ⟨c, hc, rfl⟩ := name_combo h; exact is_rows c hc
theorem may_name {nm : Str} (h : nm ∈ namesAll) : mayP nm = (!(noneL.any fun x => x == nm) && !(barWords.any fun x => x == nm)) := by obtain ⟨c, hc, rfl⟩ := name_combo h; exact may_rows c hc
theorem lay_rows : ∀ c ∈ combo, ∀ p, c.2.1 = some p → (PyData.str p.1).canLay0 = true := by
  have k : ∀ c ∈ combo, (match c.2.1 with | some p => (PyData.str p.1).canLay0 | none => true) = true := by decide +kernel
  intro c hc p e
  have := k c hc
  rw [e] at this
  exact this
theorem lay_name {nm : Str} {ks : List Int} {op : Str} {w : List Int} {r : Int} (h : nm ∈ namesAll) (e : chooseP nm ks = some (op, w, r)) : (PyData.str op).canLay0 = true := by
  obtain ⟨c, hc, rfl⟩ := name_combo h
  obtain ⟨h1, _⟩ := combo_ok c hc
  rw [choose_q, h1] at e
  unfold chooseQ at e
  cases q : c.2.1 with
  | none => rw [q] at e; cases e
  | some p =>
    rw [q] at e
    have := lay_rows c hc p q
    simp only at e
    split at e
    · cases e; exact this
    · cases e
end

section
open PySem PySem.W PyProof.Rows PySem.Calls
theorem ct_due_no {w : World} {p : Program} {loose : List Str} {mean : ExcName → Option Value} {mg mb : Str → Option Value} {nm : Str} {tn : Tok} {ks : List Int} {vs : List Value} {c : Nat} {kl : Addr} {news : List (Addr × Obj)}
  {dp un : Nat} {gd : Option (List Code)} {cn : Str} {cs : Scope} {a : Addr} {ccd : Value} {cl : List (Str × Addr)} {outer : List Env} {A₀ : Around} {base h₀ : Heap} {L : Addr} {m : Str → Option Value} {s : Shared} {Q E : Value → Shared → Prop} :
  Below A₀ base outer h₀ → Fr h₀ L s.heap m → (hd.heap_39 w.params).In h₀ → Top p loose mean mg mb h₀ → cs.kind = .function → dp < 330 → un < 60 → News h₀ L s.heap ((kl, listOf vs.toArray c) :: news) → IntsAre vs ks → KindsOk ks → nm ∈ namesAll → chooseP nm ks = none →
  (∀ h' tk', Fr h₀ L h' m → News h₀ L h' ((kl, listOf vs.toArray c) :: news) → Q .none { s with heap := h', toks := tk' }) →
  wpAny (model Challenge.rw_no0227_01.row.prog w) (ktrTop dp un gd cn cs L a ccd cl outer) (call (.ref 144) [.str nm tn, .ref kl]) Q E s :=
  fun B F X T hk hdp hun N hi ok hn e h => ct_due B F X T hk hdp hun N hi ok.len ok.bd (fun h' tk' _ F' N' => h h' tk' F' N') fun T' op t1 r t2 wl o ws w h' tk' e' => by
    rw [← law_eq hn ok, e] at e'; cases e'
theorem ct_due_yes {w : World} {p : Program} {loose : List Str} {mean : ExcName → Option Value} {mg mb : Str → Option Value} {nm : Str} {tn : Tok} {ks : List Int} {vs : List Value} {c : Nat} {kl : Addr} {news : List (Addr × Obj)} {op : Str} {w' : List Int} {r : Int}
  {dp un : Nat} {gd : Option (List Code)} {cn : Str} {cs : Scope} {a : Addr} {ccd : Value} {cl : List (Str × Addr)} {outer : List Env} {A₀ : Around} {base h₀ : Heap} {L : Addr} {m : Str → Option Value} {s : Shared} {Q E : Value → Shared → Prop} :
  Below A₀ base outer h₀ → Fr h₀ L s.heap m → (hd.heap_39 w.params).In h₀ → Top p loose mean mg mb h₀ → cs.kind = .function → dp < 330 → un < 60 → News h₀ L s.heap ((kl, listOf vs.toArray c) :: news) → IntsAre vs ks → KindsOk ks → nm ∈ namesAll → chooseP nm ks = some (op, w', r) →
  (∀ T t1 t2 wl o ws h' tk', ListObj o ws → IntsAre ws w' → Fr h₀ L h' m → News h₀ L h' ((T, tripleObj op t1 wl r t2) :: (wl, o) :: (kl, listOf vs.toArray c) :: news) → Q (.ref T) { s with heap := h', toks := tk' }) →
  wpAny (model Challenge.rw_no0227_01.row.prog w) (ktrTop dp un gd cn cs L a ccd cl outer) (call (.ref 144) [.str nm tn, .ref kl]) Q E s :=
  fun B F X T hk hdp hun N hi ok hn e h => ct_due B F X T hk hdp hun N hi ok.len ok.bd (fun h' tk' e' => by rw [← law_eq hn ok, e] at e'; cases e') fun T' op2 t1 r2 t2 wl o ws w2 h' tk' e' lo ia F' N' => by
    rw [← law_eq hn ok, e] at e'; cases e'
    exact h T' t1 t2 wl o ws h' tk' lo ia F' N'
section
variable {prog : Program} {w : World} {A : Around} {E : Value → Shared → Prop} {s : Shared} {h₀ : Heap} {L : Addr} {m : Str → Option Value} {news : List (Addr × Obj)}
theorem canlay_ints : ∀ w : List Int, PyData.canLayAll0 (w.map PyData.int) = true
  | [] => rfl
  | _ :: r => by show (true && _) = true; rw [canlay_ints r]; rfl
theorem depth_ints : ∀ w : List Int, PyData.depthAll (w.map PyData.int) = 0
  | [] => rfl
  | _ :: r => by show max 0 (PyData.depthAll (r.map PyData.int)) = 0; rw [depth_ints r]; rfl
theorem triple_reads {T wl : Addr} {op : Str} {r : Int} {t1 t2 : Tok} {o : Obj} {ws : List Value} {ks : List Int} (N : News h₀ L s.heap news) (m1 : (T, tripleObj op t1 wl r t2) ∈ news) (m2 : (wl, o) ∈ news) (lo : ListObj o ws) (ia : IntsAre ws ks) :
    ∃ as, Reads s.heap (.ref T) (.tuple [.str op, .list (ks.map .int), .int r]) as := by
  obtain ⟨hc, n, hd⟩ := lo
  exact ⟨_, .tuple (N _ m1).1 rfl rfl (.cons (.str _ _) (.cons (.list (N _ m2).1 hc hd (ia.reads _)) (.cons (.int _ _) .nil)))⟩
theorem triple_ne {T1 T2 l1 l2 : Addr} {op : Str} {r : Int} {a1 a2 b1 b2 : Tok} {o1 o2 : Obj} {ws1 ws2 : List Value} {ks : List Int} {Q : Value → Shared → Prop} (N : News h₀ L s.heap news)
    (m1 : (T1, tripleObj op a1 l1 r b1) ∈ news) (m3 : (T2, tripleObj op a2 l2 r b2) ∈ news) (m2 : (l1, o1) ∈ news) (m4 : (l2, o2) ∈ news) (lo1 : ListObj o1 ws1) (lo2 : ListObj o2 ws2) (i1 : IntsAre ws1 ks) (i2 : IntsAre ws2 ks)
    (lay : (PyData.str op).canLay0 = true) (hu : A.units + 4 < cLine) (h : Q (.bool false) s) : wpAny (model prog w) A (compareOp .NotEq (.ref T1) (.ref T2)) Q E s := by
  obtain ⟨as, ra⟩ := triple_reads N m1 m2 lo1 i1
  obtain ⟨bs, rb⟩ := triple_reads N m3 m4 lo2 i2
  have la : (PyData.tuple [.str op, .list (ks.map .int), .int r]).canLay0 = true := by
    show ((PyData.str op).canLay0 && (PyData.canLayAll0 (ks.map .int) && (true && true))) = true
    rw [lay, canlay_ints]; rfl
  have ld : (PyData.tuple [.str op, .list (ks.map .int), .int r]).depth ≤ 3 := by
    show max 0 (max (PyData.depthAll (ks.map .int) + 1) (max 0 0)) + 1 ≤ 3
    rw [depth_ints]; decide
  have hm := Nat.min_le_left (PyData.tuple [.str op, .list (ks.map .int), .int r]).depth (PyData.tuple [.str op, .list (ks.map .int), .int r]).depth
  refine SeqAt.compareNe_reads ra rb la la (by omega) ?_
  rw [SeqAt.eqv_refl _ la]; exact h
theorem mul_kinds {D : Addr} {k n : Int} {tt u : Tok} {c : Nat} {Q : Value → Shared → Prop} (F : Fr h₀ L s.heap m) (N : News h₀ L s.heap news) (hm : (D, listOf #[Value.int k tt] c) ∈ news) (h0 : 0 ≤ n) (h4 : n ≤ 4) (hk : 0 ≤ k ∧ k ≤ 5)
    (h : ∀ D' vs ks h', IntsAre vs ks → KindsOk ks → Fr h₀ L h' m → News h₀ L h' ((D', listOf vs.toArray 0) :: news) → (∀ p ∈ news, p.1 < D') → Q (.ref D') { s with heap := h' }) :
    wpAny (model prog w) A (binaryOp .Mult (.ref D) (.int n u)) Q E s := by
  refine KM.mul (vs := [Value.int k tt]) (ns := [k]) F N ⟨_, (N _ hm).1, rfl, _, rfl⟩ (IntsAre.cons _ _ IntsAre.nil) (by omega) (by omega) (by show 1 * n.toNat ≤ 2 ^ 24; omega) fun D' h' F' N' l1 i1 _ _ _ _ _ => h D' _ _ h' i1 ⟨?_, ?_⟩ F' N' l1
  · rw [rep_flat, List.length_replicate]; omega
  · intro v hv
    rw [rep_flat] at hv
    rw [List.eq_of_mem_replicate hv]; exact hk
theorem setL_some : ∀ (l : List Value) (j : Nat) (v : Value), j < l.length → ki_setL l j v = some (l.set j v)
  | [], _, _, h => absurd h (Nat.not_lt_zero _)
  | _ :: _, 0, _, _ => rfl
  | x :: r, j + 1, v, h => by
    unfold ki_setL
    rw [setL_some r j v (Nat.lt_of_succ_lt_succ h)]; rfl
theorem set_last {D : Addr} {k x : Int} {tt u : Tok} {vs : List Value} {ks : List Int} {c : Nat} {news' : List (Addr × Obj)} {Q : Unit → Shared → Prop} (F : Fr h₀ L s.heap m) (N : News h₀ L s.heap news)
    (U : Upd D (listOf vs.toArray c) (listOf (vs.set (vs.length - 1) (.int x u)).toArray c) news news') (hi : IntsAre vs ks) (ok : KindsOk ks) (ne : ks ≠ []) (hk : k = -1) (hx : 0 ≤ x ∧ x ≤ 5)
    (h : ∀ h', IntsAre (vs.set (vs.length - 1) (.int x u)) (ks.set (vs.length - 1) x) → KindsOk (ks.set (vs.length - 1) x) → Fr h₀ L h' m → News h₀ L h' news' → Q () { s with heap := h' }) :
    wpAny (model prog w) A (setItem (.ref D) (.int k tt) (.int x u)) Q E s := by
  subst hk
  have hl : vs.length = ks.length := hi.length
  have hp : 0 < vs.length := by rw [hl]; exact List.length_pos_iff.mpr ne
  refine ki_setNeg F N (by decide) (by decide) (j := vs.length - 1) ?_ (q := vs.set (vs.length - 1) (.int x u)) ?_ U fun h' F' N' => h h' (ints_set hi _) ⟨?_, ?_⟩ F' N'
  · rw [PySem.seqIndex_neg (by decide) (by rw [List.size_toArray]; omega), List.size_toArray]
    exact congrArg some (by omega)
  · exact setL_some _ _ _ (by show vs.length - 1 < vs.length; omega)
  · rw [List.length_set]; exact ok.len
  · intro v hv
    rcases List.mem_or_eq_of_mem_set hv with q | rfl
    · exact ok.bd v q
    · exact hx
theorem item_123 {D : Addr} {a b d u : Tok} {c : Nat} {i : Int} {value slice : Expr} {Q : Value → Shared → Prop} (N : News h₀ L s.heap news) (hm : (D, listOf #[Value.int 1 a, Value.int 2 b, Value.int 3 d] c) ∈ news) (h0 : 0 ≤ i) (h1 : i < 3)
    (h : ∀ v t, 1 ≤ v → v ≤ 3 → Q (.int v t) s)
    (hs' : subscripted slice false (.ref D) (.int i u) = operate [.ref D, .int i u] (getItem (.ref D) (.int i u)) := by with_unfolding_all rfl) :
    wpAny (model prog w) A (subscriptTail value slice (.ref D) (.int i u)) Q E s := by
  obtain ⟨j, rfl⟩ := Int.eq_ofNat_of_zero_le h0
  have hj : j < 3 := by omega
  have go : ∀ x, (#[Value.int 1 a, Value.int 2 b, Value.int 3 d] : Array Value)[(j : Int).toNat]? = some x → Q x s → wpAny (model prog w) A (subscriptTail value slice (.ref D) (.int (j : Int) u)) Q E s := fun x hx hq =>
    tail_any (Heap.IsList.typeIs ⟨_, (N _ hm).1, rfl, _, rfl⟩) slot_list_getitem.lookup (wpAny_getItem_list ⟨_, (N _ hm).1, rfl, _, rfl⟩ h0 (by omega) hx hq) hs'
  match j, hj with
  | 0, _ => exact go _ rfl (h 1 a (by decide) (by decide))
  | 1, _ => exact go _ rfl (h 2 b (by decide) (by decide))
  | 2, _ => exact go _ rfl (h 3 d (by decide) (by decide))
theorem notin_none {nm : Str} {t : Tok} {Q : Value → Shared → Prop} (F : Fr h₀ L s.heap m) (X : (hd.heap_39 w.params).In h₀) (h : Q (.bool (!(noneL.any fun x => x == nm))) s) : wpAny (model prog w) A (compareOp .NotIn (.str nm t) (.ref 123)) Q E s := by
  obtain ⟨ws, hw, o, ho, r⟩ := none_list X
  exact notin_list_strs ⟨o, F.keep _ _ ho, r⟩ hw h
theorem notin_bar {nm : Str} {t : Tok} {D : Addr} {l : List (Str × Tok)} {c : Nat} {Q : Value → Shared → Prop} (N : News h₀ L s.heap news) (hm : (D, listOf (strValues l).toArray c) ∈ news) (e : l.map (·.1) = barWords) (h : Q (.bool (!(barWords.any fun x => x == nm))) s) : wpAny (model prog w) A (compareOp .NotIn (.str nm t) (.ref D)) Q E s :=
  notin_list_strs ⟨_, (N _ hm).1, rfl, _, rfl⟩ (e ▸ strsAre_of_values l) h
end
theorem fm_ok (x : Int) {k : Int} (h : 0 < k) : 0 ≤ x.fmod k ∧ x.fmod k < k := by
  rw [Int.fmod_eq_emod_of_nonneg _ (by omega)]
  exact ⟨Int.emod_nonneg _ (by omega), Int.emod_lt_of_pos _ h⟩
end

section
open PySem PySem.W PyProof.Rows PySem.Calls
theorem ct_isv {w : World} {p : Program} {loose : List Str} {mean : ExcName → Option Value} {mg mb : Str → Option Value} {nm : Str} {tn : Tok} {news : List (Addr × Obj)} {b : Bool}
  {dp un : Nat} {gd : Option (List Code)} {cn : Str} {cs : Scope} {a : Addr} {ccd : Value} {cl : List (Str × Addr)} {outer : List Env} {A₀ : Around} {base h₀ : Heap} {L : Addr} {m : Str → Option Value} {s : Shared} {Q E : Value → Shared → Prop} :
  Below A₀ base outer h₀ → Fr h₀ L s.heap m → (hd.heap_39 w.params).In h₀ → Top p loose mean mg mb h₀ → cs.kind = .function → dp < 330 → un < 60 → News h₀ L s.heap news → nm ∈ namesAll → (noneL.any fun x => x == nm) = b →
  (∀ h' tk', Fr h₀ L h' m → News h₀ L h' news → Q (.bool (!b)) { s with heap := h', toks := tk' }) →
  wpAny (model Challenge.rw_no0227_01.row.prog w) (ktrTop dp un gd cn cs L a ccd cl outer) (call (.ref 75) [.str nm tn]) Q E s :=
  fun B F X T hk hdp hun N hn hb h => ct_is B F X T hk hdp hun N fun b' h' tk' e F' N' => by
    rw [is_name hn, hb] at e; subst e; exact h h' tk' F' N'
theorem ct_mayf {w : World} {p : Program} {loose : List Str} {mean : ExcName → Option Value} {mg mb : Str → Option Value} {nm : Str} {tn : Tok} {news : List (Addr × Obj)}
  {dp un : Nat} {gd : Option (List Code)} {cn : Str} {cs : Scope} {a : Addr} {ccd : Value} {cl : List (Str × Addr)} {outer : List Env} {A₀ : Around} {base h₀ : Heap} {L : Addr} {m : Str → Option Value} {s : Shared} {Q E : Value → Shared → Prop} :
  Below A₀ base outer h₀ → Fr h₀ L s.heap m → (hd.heap_39 w.params).In h₀ → Top p loose mean mg mb h₀ → cs.kind = .function → dp < 330 → un < 60 → News h₀ L s.heap news → nm ∈ namesAll → (noneL.any fun x => x == nm) = true →
  (∀ h' tk', Fr h₀ L h' m → News h₀ L h' news → Q (.bool false) { s with heap := h', toks := tk' }) →
  wpAny (model Challenge.rw_no0227_01.row.prog w) (ktrTop dp un gd cn cs L a ccd cl outer) (call (.ref 82) [.str nm tn]) Q E s :=
  fun B F X T hk hdp hun N hn hb h => ct_may B F X T hk hdp hun N fun b' h' tk' e F' N' => by
    rw [may_name hn, hb] at e
    have e' : false = b' := e
    subst e'; exact h h' tk' F' N'
theorem ct_mayt {w : World} {p : Program} {loose : List Str} {mean : ExcName → Option Value} {mg mb : Str → Option Value} {nm : Str} {tn : Tok} {news : List (Addr × Obj)}
  {dp un : Nat} {gd : Option (List Code)} {cn : Str} {cs : Scope} {a : Addr} {ccd : Value} {cl : List (Str × Addr)} {outer : List Env} {A₀ : Around} {base h₀ : Heap} {L : Addr} {m : Str → Option Value} {s : Shared} {Q E : Value → Shared → Prop} :
  Below A₀ base outer h₀ → Fr h₀ L s.heap m → (hd.heap_39 w.params).In h₀ → Top p loose mean mg mb h₀ → cs.kind = .function → dp < 330 → un < 60 → News h₀ L s.heap news → nm ∈ namesAll → (noneL.any fun x => x == nm) = false →
  (∀ h' tk', (barWords.any fun x => x == nm) = false → Fr h₀ L h' m → News h₀ L h' news → Q (.bool true) { s with heap := h', toks := tk' }) →
  (∀ h' tk', (barWords.any fun x => x == nm) = true → Fr h₀ L h' m → News h₀ L h' news → Q (.bool false) { s with heap := h', toks := tk' }) →
  wpAny (model Challenge.rw_no0227_01.row.prog w) (ktrTop dp un gd cn cs L a ccd cl outer) (call (.ref 82) [.str nm tn]) Q E s :=
  fun B F X T hk hdp hun N hn hb h1 h2 => ct_may B F X T hk hdp hun N fun b' h' tk' e F' N' => by
    rw [may_name hn, hb] at e
    cases q : (barWords.any fun x => x == nm) with
    | true =>
      rw [q] at e
      have e' : false = b' := e
      subst e'; exact h2 h' tk' q F' N'
    | false =>
      rw [q] at e
      have e' : true = b' := e
      subst e'; exact h1 h' tk' q F' N'

/-- the law's frame when the kinds are drawn -/
noncomputable def kindMap (nm : Str) (tn : Tok) (D Dn Dm : Addr) (u : Str → Option Value) : Str → Option Value := fun y => if y = Str.ofString "kinds" then some (.ref D) else if y = Str.ofString "name" then some (.str nm tn) else lawMap Dn Dm u y
theorem kindMap_self {nm : Str} {tn : Tok} {D Dn Dm : Addr} {m : Str → Option Value} (h0 : m (Str.ofString "kinds") = some (.ref D)) (h3 : m (Str.ofString "name") = some (.str nm tn)) (h1 : m (Str.ofString "names") = some (.ref Dn)) (h2 : m (Str.ofString "numbers") = some (.ref Dm)) : kindMap nm tn D Dn Dm m = m := by
  funext y; unfold kindMap; split
  · rename_i e; rw [e, h0]
  · split
    · rename_i e; rw [e, h3]
    · rw [lawMap_self h1 h2]
def KindsI (s : Shared) (h₀ : Heap) (L : Addr) (nm : Str) (Dn Dm : Addr) (base : List (Addr × Obj)) (s' : Shared) : Prop :=
  ∃ h' tk' D vs ks u tn, s' = { s with heap := h', toks := tk' } ∧ IntsAre vs ks ∧ KindsOk ks ∧ (∀ p ∈ base, p.1 < D) ∧ Fr h₀ L h' (kindMap nm tn D Dn Dm u) ∧ News h₀ L h' ((D, listOf vs.toArray 0) :: base)
noncomputable def wayMap (fi : Int) (ti : Tok) (wa : Int) (ta : Tok) (m : Str → Option Value) : Str → Option Value := fun y => if y = Str.ofString "first" then some (.int fi ti) else if y = Str.ofString "way" then some (.int wa ta) else m y
theorem wayMap_self {fi wa : Int} {ti ta : Tok} {m : Str → Option Value} (h0 : m (Str.ofString "first") = some (.int fi ti)) (h3 : m (Str.ofString "way") = some (.int wa ta)) : wayMap fi ti wa ta m = m := by
  funext y; unfold wayMap; split
  · rename_i e; rw [e, h0]
  · split
    · rename_i e; rw [e, h3]
    · rfl
def KindsJ (s : Shared) (h₀ : Heap) (L : Addr) (nm : Str) (Dn Dm : Addr) (base : List (Addr × Obj)) (s' : Shared) : Prop :=
  ∃ h' tk' D vs ks u tn fi ti wa ta, s' = { s with heap := h', toks := tk' } ∧ IntsAre vs ks ∧ KindsOk ks ∧ (0 ≤ fi ∧ fi ≤ 5) ∧ (∀ p ∈ base, p.1 < D) ∧ Fr h₀ L h' (wayMap fi ti wa ta (kindMap nm tn D Dn Dm u)) ∧ News h₀ L h' ((D, listOf vs.toArray 0) :: base)
section
variable {prog : Program} {w : World} {A : Around} {E : Value → Shared → Prop} {s : Shared} {h₀ : Heap} {env : Env} {L : Addr} {m : Str → Option Value} {Q : Flow → Shared → Prop} {nm : Str} {Dn Dm D I : Addr} {base : List (Addr × Obj)}
theorem kinds_cut {tn0 : Tok} {a b : Stmt} {rest : List Stmt} {s0 : Shared} (_F : Fr h₀ env.locals s.heap m) (_N : News h₀ env.locals s.heap base) (_h3 : m (Str.ofString "name") = some (.str nm tn0)) (_h1 : m (Str.ofString "names") = some (.ref Dn)) (_h2 : m (Str.ofString "numbers") = some (.ref Dm))
    (h : wpAny (model prog w) A (execs [a, b] env) (CutPost (KindsJ s0 h₀ env.locals nm Dn Dm base) Q) E s)
    (h2 : ∀ D vs ks fi ti wa ta tn u h' tk', IntsAre vs ks → KindsOk ks → (0 ≤ fi ∧ fi ≤ 5) → (∀ p ∈ base, p.1 < D) → Fr h₀ env.locals h' (wayMap fi ti wa ta (kindMap nm tn D Dn Dm u)) → News h₀ env.locals h' ((D, listOf vs.toArray 0) :: base) → wpAny (model prog w) A (execs rest env) Q E { s0 with heap := h', toks := tk' }) :
    wpAny (model prog w) A (execs (a :: b :: rest) env) Q E s :=
  execs_cut [a, b] h fun s' i => by
    obtain ⟨h', tk', D, vs, ks, u, tn, fi, ti, wa, ta, rfl, i1, ok, hf, lt, F, N⟩ := i
    exact h2 D vs ks fi ti wa ta tn u h' tk' i1 ok hf lt F N
theorem kinds_cut2 {tn0 : Tok} {D0 : Addr} {big : List (Addr × Obj)} {a : Stmt} {rest : List Stmt} {s0 : Shared} (_F : Fr h₀ env.locals s.heap m) (_h0 : m (Str.ofString "kinds") = some (.ref D0)) (_lt : ∀ p ∈ base, p.1 < D0) (_N : News h₀ env.locals s.heap big) (_h3 : m (Str.ofString "name") = some (.str nm tn0)) (_h1 : m (Str.ofString "names") = some (.ref Dn)) (_h2 : m (Str.ofString "numbers") = some (.ref Dm))
    (h : wpAny (model prog w) A (execs [a] env) (CutPost (KindsI s0 h₀ env.locals nm Dn Dm base) Q) E s)
    (h2 : ∀ D vs ks u tn h' tk', IntsAre vs ks → KindsOk ks → (∀ p ∈ base, p.1 < D) → Fr h₀ env.locals h' (kindMap nm tn D Dn Dm u) → News h₀ env.locals h' ((D, listOf vs.toArray 0) :: base) → wpAny (model prog w) A (execs rest env) Q E { s0 with heap := h', toks := tk' }) :
    wpAny (model prog w) A (execs (a :: rest) env) Q E s :=
  execs_cut [a] h fun s' i => by
    obtain ⟨h', tk', D, vs, ks, u, tn, rfl, i1, ok, lt, F, N⟩ := i
    exact h2 D vs ks u tn h' tk' i1 ok lt F N
theorem kinds_endJ {big : List (Addr × Obj)} {m' : Str → Option Value} {h' : Heap} {tk' : Nat} {vs : List Value} {ks : List Int} {tn ti ta : Tok} {fi wa : Int} (F : Fr h₀ L h' m') (h0 : m' (Str.ofString "kinds") = some (.ref D)) (h3 : m' (Str.ofString "name") = some (.str nm tn)) (h1 : m' (Str.ofString "names") = some (.ref Dn)) (h2 : m' (Str.ofString "numbers") = some (.ref Dm)) (h4 : m' (Str.ofString "first") = some (.int fi ti)) (h5 : m' (Str.ofString "way") = some (.int wa ta)) (hf : 0 ≤ fi ∧ fi ≤ 5)
    (N : News h₀ L h' ((D, listOf vs.toArray 0) :: base)) (i : IntsAre vs ks) (ok : KindsOk ks) (lt : ∀ p ∈ big, p.1 < D) (sub : ∀ p ∈ base, p ∈ big) :
    CutPost (KindsJ s h₀ L nm Dn Dm base) Q .next { s with heap := h', toks := tk' } :=
  ⟨h', tk', D, vs, ks, m', tn, fi, ti, wa, ta, rfl, i, ok, hf, fun p hp => lt p (sub p hp), by rw [kindMap_self h0 h3 h1 h2, wayMap_self h4 h5]; exact F, N⟩
theorem kinds_end {big : List (Addr × Obj)} {m' : Str → Option Value} {h' : Heap} {tk' : Nat} {vs : List Value} {ks : List Int} {tn : Tok} (F : Fr h₀ L h' m') (h0 : m' (Str.ofString "kinds") = some (.ref D)) (h3 : m' (Str.ofString "name") = some (.str nm tn)) (h1 : m' (Str.ofString "names") = some (.ref Dn)) (h2 : m' (Str.ofString "numbers") = some (.ref Dm))
    (N : News h₀ L h' ((D, listOf vs.toArray 0) :: base)) (i : IntsAre vs ks) (ok : KindsOk ks) (lt : ∀ p ∈ big, p.1 < D) (sub : ∀ p ∈ base, p ∈ big) :
    CutPost (KindsI s h₀ L nm Dn Dm base) Q .next { s with heap := h', toks := tk' } :=
  ⟨h', tk', D, vs, ks, m', tn, rfl, i, ok, fun p hp => lt p (sub p hp), by rw [kindMap_self h0 h3 h1 h2]; exact F, N⟩
theorem law_back {o : Obj} {news : List (Addr × Obj)} {s₁ : Shared} {m' : Str → Option Value} {h' : Heap} {tk : Nat} (hI : ∀ p ∈ news, p.1 < I) (F : Fr h₀ L h' m') (N : News h₀ L h' ((I, o) :: news)) (h1 : m' (Str.ofString "names") = some (.ref Dn)) (h2 : m' (Str.ofString "numbers") = some (.ref Dm)) :
    UnrEndW h₀ L s₁ [(I, o)] (fun m' n' => n' = news ∧ m' (Str.ofString "names") = some (.ref Dn) ∧ m' (Str.ofString "numbers") = some (.ref Dm)) { s₁ with heap := h', toks := tk } :=
  ⟨h', tk, m', news, rfl, F, N, fun p hp q hq e => by
    rw [List.mem_singleton.mp hq] at e
    have := hI p hp
    rw [e] at this
    exact absurd this (Nat.lt_irrefl _), rfl, h1, h2⟩
theorem list_kinds {vs : List Value} {ks : List Int} {c : Nat} {Q : Value → Shared → Prop} (F : Fr h₀ L s.heap m) (N : News h₀ L s.heap base) (hm : (D, listOf vs.toArray c) ∈ base) (hi : IntsAre vs ks) (ok : KindsOk ks)
    (h : ∀ D' c' h', Fr h₀ L h' m → News h₀ L h' ((D', listOf vs.toArray c') :: base) → (∀ q ∈ base, q.1 < D') → Q (.ref D') { s with heap := h' }) : wpAny (model prog w) A (call (.type "list") [.ref D]) Q E s :=
  list_copyK F N ⟨_, (N _ hm).1, rfl, _, rfl⟩ h (by have := ok.len; rw [List.size_toArray, hi.length]; have : (5 : Nat) ≤ sizeLine := by decide
                                                    omega)
theorem notin_none2 {t : Tok} {Q : Value → Shared → Prop} (F : Fr h₀ L s.heap m) (X : (hd.heap_39 w.params).In h₀) (hf : (noneL.any fun x => x == nm) = false → Q (.bool true) s) (ht : (noneL.any fun x => x == nm) = true → Q (.bool false) s) : wpAny (model prog w) A (compareOp .NotIn (.str nm t) (.ref 123)) Q E s := by
  refine notin_none F X ?_
  cases q : (noneL.any fun x => x == nm) with
  | true => exact ht q
  | false => exact hf q
theorem notin_bar2 {t : Tok} {l : List (Str × Tok)} {c : Nat} {b : Bool} {Q : Value → Shared → Prop} (N : News h₀ L s.heap base) (hm : (D, listOf (strValues l).toArray c) ∈ base) (e : l.map (·.1) = barWords) (hb : (barWords.any fun x => x == nm) = b) (h : Q (.bool (!b)) s) : wpAny (model prog w) A (compareOp .NotIn (.str nm t) (.ref D)) Q E s := by
  refine notin_bar N hm e ?_
  rw [hb]; exact h
end
end

section
open PySem PySem.W PyProof.Rows PySem.Calls
theorem kw_L5_1 : True := by
  k_with_none
  k_with "m:call ref" =>
    (k_here; (with_reducible show wpAny _ _ (call (Value.ref 115) _) _ _ _); k_dflt (refine' ct_gtext ?kwB ?kwF ?kwX ?kwT ?kwhk ?kwhd ?kwhu ?kwN ?_; (case kwB => k_asm); (case kwF => k_asm); (case kwX => k_asm); (case kwN => k_asm); (case kwT => k_asm); (case kwhk => first | exact rfl | assumption); (case kwhd => first | omega | ((try simp only [depth_under_make, depth_under_kw, depth_in1, depth_deeper, depth_caller]); (try dsimp only [ktrTop]); omega)); (case kwhu => first | omega | ((try simp only [units_in1, units_deeper, Around.mark_units, units_caller]); (try dsimp only [ktrTop]); omega)); all_goals intros))
  trivial

theorem kw_L5_2 : True := by
  k_with "m:call ref" =>
    (k_here; (with_reducible show wpAny _ _ (call (Value.ref 122) _) _ _ _); k_dflt (refine' ct_stext ?kwB ?kwF ?kwX ?kwT ?kwhk ?kwhd ?kwhu ?kwN ?_; (case kwB => k_asm); (case kwF => k_asm); (case kwX => k_asm); (case kwN => k_asm); (case kwT => k_asm); (case kwhk => first | exact rfl | assumption); (case kwhd => first | omega | ((try simp only [depth_under_make, depth_under_kw, depth_in1, depth_deeper, depth_caller]); (try dsimp only [ktrTop]); omega)); (case kwhu => first | omega | ((try simp only [units_in1, units_deeper, Around.mark_units, units_caller]); (try dsimp only [ktrTop]); omega)); all_goals intros))
  trivial

theorem kw_L5_3 : True := by
  k_with "m:binaryOp Add str str" =>
    (k_here; (with_reducible show wpAny _ _ (binaryOp Operator.Add (Value.str _ _) (Value.str _ _)) _ _ _); k_dflt (refine' add_len ?kwa ?_; (case kwa => first | exact sz1 | exact sz2)); intro _ _)
  k_with "m:call builtin:str.split" =>
    (k_here; (with_reducible show wpAny _ _ (call (Value.builtin "str.split") [Value.str (_ ++ _ ++ _) _, Value.str _ _]) _ _ _); k_dflt (refine' KSpl.split1 ?kwa ?kwb ?kwc ?_ ?kwd; (case kwa => k_asm); (case kwb => k_asm); (case kwc => decide); (case kwd => exact sz3)); intro D' l' h' k' e' a' F' N' l1; (try k_lt l1); replace e' := e'.trans split_text)
  k_with "m:eval ListComp" =>
    (k_here; (with_reducible refine' names_comp ?kwF0 ?kwhh ?kwhclos ?kwhcell ?kwhkind ?kwhnames ?kwhx ?_ ?kwhs); (case kwF0 => k_asm); (case kwhh => with_unfolding_all rfl); (case kwhclos => with_unfolding_all rfl); (case kwhcell => decide); (case kwhkind => with_unfolding_all rfl); (case kwhnames => decide); (case kwhx => with_unfolding_all rfl); (case kwhs => intro _; with_unfolding_all rfl))
  trivial

theorem kw_L5_4 : True := by
  k_with "m:NamesAt" =>
    (k_here; k_dflt (refine' ⟨_, _, _, _, rfl, ?kwa, ?kwb, ?kwf, ?kwn, ?_, ?_⟩; (case kwf => k_asm); (case kwn => k_asm); (case kwa => k_mem); (case kwb => assumption)); all_goals intros)
  trivial

theorem kw_L5_5 : True := by
  k_with "m:eval Name" =>
    (k_here; (with_reducible show wpAny _ _ (eval (Expr.Name _ _) (compEnvC _ _ _ _)) _ _ _); (rename Fr _ _ _ _ => kF9); k_dflt (refine' ldVarK kF9.ns ?kwa ?_; (case kwa => assumption)))
  k_with "m:call builtin:str.split" =>
    (k_here; (with_reducible show wpAny _ _ (call (Value.builtin "str.split") [Value.str _ _, Value.str (Str.ofString ":") _]) _ _ _); k_dflt (refine' split_elem ?kwa ?_; (case kwa => assumption)); intros)
  k_with "m:subscriptTail" =>
    (k_here; (with_reducible show wpAny _ _ (subscriptTail _ _ (Value.ref _) (Value.int 0 _)) _ _ _); k_dflt (refine' item_elem ?kwa ?kwb ?_; (case kwa => assumption); (case kwb => assumption)); intros)
  k_with "m:binaryOp Add ref ref" =>
    (k_here; (with_reducible show wpAny _ _ (binaryOp _ (Value.ref _) (Value.ref 123)) _ _ _); k_dflt (refine' add_names ?kwF ?kwX ?kwN ?kwa ?kwb ?_; (case kwF => k_asm); (case kwX => k_asm); (case kwN => k_asm); (case kwa => k_mem); (case kwb => assumption)); intros)
  trivial

theorem carried_head {r y : Str} {t : Tok} {l : List (Str × Tok)} (e : l.map (·.1) = Txt.split r (Str.ofString ":")) (h : (l.map (·.1))[Int.toNat 0]? = some y) : Carried (.str y t) (.str (headOf r)) := by
  have k : headOf r = y := by
    rw [e] at h
    unfold headOf
    cases q : Txt.split r (Str.ofString ":") with
    | nil => rw [q] at h; cases h
    | cons a b => rw [q] at h; exact Option.some.inj h
  rw [k]; exact .str _ _
theorem kw_L5_6 : True := by
  k_with "m:exec For Name Call cons nil" =>
    (k_here; (rename Fr _ _ _ _ => lF'); (with_unfolding_all refine' For_turns lF' ?_; k_whole))
  k_with "m:pyIter ref" =>
    (k_here; k_dflt (refine' law_loop ?kwhk ?kwhh ?kwF ?kwN ?kwh1 ?kwh2 ?kwhr ?_ ?_; (case kwF => k_asm); (case kwN => k_asm); (case kwhr => assumption); (case kwhk => exact List.length_take_le _ _); (case kwhh => exact rfl); (case kwh1 => exact rfl); (case kwh2 => exact rfl)); all_goals intros)
  trivial

theorem kw_L5_7 : True := by
  k_with "m:call ref" =>
    (k_here; (with_reducible show wpAny _ _ (call (Value.ref 130) _) _ _ _); k_dflt (refine' ct_btext ?kwB ?kwF ?kwX ?kwT ?kwhk ?kwhd ?kwhu ?kwN  ?_; (case kwB => k_asm); (case kwF => k_asm); (case kwX => k_asm); (case kwT => k_asm); (case kwhk => first | exact rfl | assumption); (case kwhd => first | decide | omega | ((try simp only [depth_under_make, depth_under_kw, depth_in1, depth_deeper, depth_caller]); (try dsimp only [ktrTop]); omega)); (case kwhu => first | decide | omega | ((try simp only [units_in1, units_deeper, Around.mark_units, units_caller]); (try dsimp only [ktrTop]); omega)); (case kwN => k_asm);  all_goals intros))
  trivial

theorem kw_L5_8 : True := by
  k_with "m:call ref" =>
    (k_here; (with_reducible show wpAny _ _ (call (Value.ref 75) [Value.str _ _]) _ _ _); k_dflt (refine' ct_isv ?kwB ?kwF ?kwX ?kwT ?kwhk ?kwhd ?kwhu ?kwN ?kwp1 ?kwp2 ?_; (case kwB => k_asm); (case kwF => k_asm); (case kwX => k_asm); (case kwT => k_asm); (case kwhk => first | exact rfl | assumption); (case kwhd => first | decide | omega | ((try simp only [depth_under_make, depth_under_kw, depth_in1, depth_deeper, depth_caller]); (try dsimp only [ktrTop]); omega)); (case kwhu => first | decide | omega | ((try simp only [units_in1, units_deeper, Around.mark_units, units_caller]); (try dsimp only [ktrTop]); omega)); (case kwN => k_asm); (case kwp1 => assumption); (case kwp2 => assumption); all_goals intros))
  trivial

theorem kw_L5_9 : True := by
  k_with "m:call ref" =>
    (k_here; (with_reducible show wpAny _ _ (call (Value.ref 82) [Value.str _ _]) _ _ _); k_dflt (refine' ct_mayf ?kwB ?kwF ?kwX ?kwT ?kwhk ?kwhd ?kwhu ?kwN ?kwp1 ?kwp2 ?_; (case kwB => k_asm); (case kwF => k_asm); (case kwX => k_asm); (case kwT => k_asm); (case kwhk => first | exact rfl | assumption); (case kwhd => first | decide | omega | ((try simp only [depth_under_make, depth_under_kw, depth_in1, depth_deeper, depth_caller]); (try dsimp only [ktrTop]); omega)); (case kwhu => first | decide | omega | ((try simp only [units_in1, units_deeper, Around.mark_units, units_caller]); (try dsimp only [ktrTop]); omega)); (case kwN => k_asm); (case kwp1 => assumption); (case kwp2 => assumption); all_goals intros))
  trivial

theorem kw_L5_10 : True := by
  k_with "m:call ref" =>
    (k_here; (with_reducible show wpAny _ _ (call (Value.ref 82) [Value.str _ _]) _ _ _); k_dflt (refine' ct_mayt ?kwB ?kwF ?kwX ?kwT ?kwhk ?kwhd ?kwhu ?kwN ?kwp1 ?kwp2 ?_ ?_; (case kwB => k_asm); (case kwF => k_asm); (case kwX => k_asm); (case kwT => k_asm); (case kwhk => first | exact rfl | assumption); (case kwhd => first | decide | omega | ((try simp only [depth_under_make, depth_under_kw, depth_in1, depth_deeper, depth_caller]); (try dsimp only [ktrTop]); omega)); (case kwhu => first | decide | omega | ((try simp only [units_in1, units_deeper, Around.mark_units, units_caller]); (try dsimp only [ktrTop]); omega)); (case kwN => k_asm); (case kwp1 => assumption); (case kwp2 => assumption); all_goals intros))
  trivial

theorem kw_L5_11 : True := by
  k_with "m:call ref" =>
    (k_here; (with_reducible show wpAny _ _ (call (Value.ref 151) [Value.str _ _, Value.ref _]) _ _ _); k_dflt (refine' ct_heard ?kwB ?kwF ?kwX ?kwT ?kwhk ?kwhd ?kwhu ?kwN ?kwp1 ?kwp2 ?_ ?_; (case kwB => k_asm); (case kwF => k_asm); (case kwX => k_asm); (case kwT => k_asm); (case kwhk => first | exact rfl | assumption); (case kwhd => first | decide | omega | ((try simp only [depth_under_make, depth_under_kw, depth_in1, depth_deeper, depth_caller]); (try dsimp only [ktrTop]); omega)); (case kwhu => first | decide | omega | ((try simp only [units_in1, units_deeper, Around.mark_units, units_caller]); (try dsimp only [ktrTop]); omega)); (case kwN => refine news_first (by k_asm) (by k_mem)); (case kwp1 => assumption); (case kwp2 => exact KindsOk.len (by assumption)); all_goals intros))
  trivial

theorem kw_L5_12 : True := by
  k_with "m:call ref" =>
    (k_here; (with_reducible show wpAny _ _ (call (Value.ref 144) [Value.str _ _, Value.ref _]) _ _ _); k_dflt (refine' ct_due_no ?kwB ?kwF ?kwX ?kwT ?kwhk ?kwhd ?kwhu ?kwN ?kwp1 ?kwp2 ?kwp3 ?kwp4 ?_; (case kwB => k_asm); (case kwF => k_asm); (case kwX => k_asm); (case kwT => k_asm); (case kwhk => first | exact rfl | assumption); (case kwhd => first | decide | omega | ((try simp only [depth_under_make, depth_under_kw, depth_in1, depth_deeper, depth_caller]); (try dsimp only [ktrTop]); omega)); (case kwhu => first | decide | omega | ((try simp only [units_in1, units_deeper, Around.mark_units, units_caller]); (try dsimp only [ktrTop]); omega)); (case kwN => refine news_first (by k_asm) (by k_mem)); (case kwp1 => assumption); (case kwp2 => assumption); (case kwp3 => assumption); (case kwp4 => assumption); all_goals intros))
  trivial

theorem kw_L5_13 : True := by
  k_with "m:call ref" =>
    (k_here; (with_reducible show wpAny _ _ (call (Value.ref 144) [Value.str _ _, Value.ref _]) _ _ _); k_dflt (refine' ct_due_yes ?kwB ?kwF ?kwX ?kwT ?kwhk ?kwhd ?kwhu ?kwN ?kwp1 ?kwp2 ?kwp3 ?kwp4 ?_; (case kwB => k_asm); (case kwF => k_asm); (case kwX => k_asm); (case kwT => k_asm); (case kwhk => first | exact rfl | assumption); (case kwhd => first | decide | omega | ((try simp only [depth_under_make, depth_under_kw, depth_in1, depth_deeper, depth_caller]); (try dsimp only [ktrTop]); omega)); (case kwhu => first | decide | omega | ((try simp only [units_in1, units_deeper, Around.mark_units, units_caller]); (try dsimp only [ktrTop]); omega)); (case kwN => refine news_first (by k_asm) (by k_mem)); (case kwp1 => assumption); (case kwp2 => assumption); (case kwp3 => assumption); (case kwp4 => assumption); all_goals intros))
  trivial

theorem kw_L5_14 : True := by
  k_with "m:call builtin:str.split" =>
    (k_here; (with_reducible show wpAny _ _ (call (Value.builtin "str.split") [Value.str barText _, Value.str _ _]) _ _ _); k_dflt (refine' KSpl.split1 ?kwa ?kwb ?kwc ?_ ?kwd; (case kwa => k_asm); (case kwb => k_asm); (case kwc => decide); (case kwd => exact sz_bar)); intro D' l' h' k' e' a' F' N' l1; (try k_lt l1); replace e' := e'.trans split_bar)
  k_with "m:compareOp NotIn str ref" =>
    (k_here; (with_reducible show wpAny _ _ (compareOp CmpOp.NotIn (Value.str _ _) (Value.ref 123)) _ _ _); k_dflt (refine' notin_none2 ?kwF ?kwX ?_ ?_; (case kwF => k_asm); (case kwX => k_asm)); all_goals intros)
  k_with "m:compareOp NotIn str ref" =>
    (k_here; (with_reducible show wpAny _ _ (compareOp CmpOp.NotIn (Value.str _ _) (Value.ref _)) _ _ _); k_dflt (refine' notin_bar2 ?kwN ?kwm ?kwe ?kwb ?_; (case kwN => k_asm); (case kwm => k_mem); (case kwe => assumption); (case kwb => assumption)))
  k_with "m:compareOp NotEq ref ref" =>
    (k_here; (with_reducible show wpAny _ _ (compareOp CmpOp.NotEq (Value.ref _) (Value.ref _)) _ _ _); k_dflt (refine' triple_ne ?kwN ?kwm1 ?kwm3 ?kwm2 ?kwm4 ?kwc1 ?kwc2 ?kwi1 ?kwi2 ?kwlay ?kwhu ?_; (case kwN => k_asm); (case kwm1 => k_mem); (case kwm3 => k_mem); (case kwm2 => k_mem); (case kwm4 => k_mem); (case kwc1 => first | assumption | exact ⟨rfl, _, rfl⟩); (case kwc2 => first | assumption | exact ⟨rfl, _, rfl⟩); (case kwi1 => assumption); (case kwi2 => assumption); (case kwlay => exact lay_name (by assumption) (by assumption)); (case kwhu => exact Nat.le_of_ble_eq_true rfl)))
  k_with "m:binaryOp Mult ref int" =>
    (k_here; (with_reducible show wpAny _ _ (binaryOp Operator.Mult (Value.ref _) (Value.int _ _)) _ _ _); k_dflt (refine' mul_kinds ?kwF ?kwN ?kwm ?kwa ?kwb ?kwc ?_; (case kwF => k_asm); (case kwN => k_asm); (case kwm => k_mem); (case kwa => first | exact (fm_ok _ (by decide)).1 | omega); (case kwb => first | exact Int.le_of_lt_add_one (fm_ok _ (by decide)).2 | omega); (case kwc => first | assumption | exact ⟨(fm_ok _ (by decide)).1, Int.le_of_lt_add_one (fm_ok _ (by decide)).2⟩)); intro D' vs' ks' h' i' o' F' N' l1; have l2 := l1; (try k_lt l1))
  k_with "m:setItem ref int" =>
    (k_here; (with_reducible show wpAny _ _ (setItem (Value.ref _) (Value.int _ _) (Value.int _ _)) _ _ _); k_dflt (refine' set_last ?kwF ?kwN ?kwU ?kwi ?kwo ?kwne ?kwk ?kwx ?_; (case kwF => k_asm); (case kwN => k_asm); (case kwU => k_upd); (case kwi => assumption); (case kwo => assumption); (case kwne => first | assumption | exact of_decide_eq_false (by assumption)); (case kwk => rfl); (case kwx => exact ⟨(fm_ok _ (by decide)).1, Int.le_of_lt_add_one (fm_ok _ (by decide)).2⟩)); intro h' i' o' F' N')
  k_with "m:call type:list" =>
    (k_here; (with_reducible show wpAny _ _ (call (Value.type _) [Value.ref _]) _ _ _); k_dflt (refine' list_kinds ?kwF ?kwN ?kwm ?kwi ?kwo ?_; (case kwF => k_asm); (case kwN => k_asm); (case kwm => k_mem); (case kwi => assumption); (case kwo => assumption)); intro D' c' h' F' N' l1; (try k_lt l1))
  k_with "m:execs cons" =>
    (k_here; (with_reducible show wpAny _ _ (execs (Stmt.If _ _ _ _ :: Stmt.Assign [Expr.Name (Str.ofString "handed") _] _ _ :: _) _) _ _ _); k_dflt (refine' kinds_cut2 (s0 := s9) ?kwF ?kwh0 ?kwlt ?kwN ?kwh3 ?kwh1 ?kwh2 ?_ ?_; (case kwF => k_asm); (case kwh0 => exact rfl); (case kwlt => assumption); (case kwN => k_asm); (case kwh3 => exact rfl); (case kwh1 => exact rfl); (case kwh2 => exact rfl)); all_goals intros)
  k_with "m:execs cons" =>
    (k_here; (with_reducible show wpAny _ _ (execs (Stmt.Assign [Expr.Name (Str.ofString "kinds") _] _ _ :: Stmt.If _ _ _ _ :: Stmt.If _ _ _ _ :: Stmt.Assign [Expr.Name (Str.ofString "handed") _] _ _ :: _) _) _ _ _); k_dflt (refine' kinds_cut (s0 := s9) ?kwF ?kwN ?kwh3 ?kwh1 ?kwh2 ?_ ?_; (case kwF => k_asm); (case kwN => k_asm); (case kwh3 => exact rfl); (case kwh1 => exact rfl); (case kwh2 => exact rfl)); all_goals intros)
  trivial

section
variable {prog : Program} {w : World} {A : Around} {E : Value → Shared → Prop} {s : Shared} {h₀ : Heap} {L : Addr} {m : Str → Option Value} {news : List (Addr × Obj)}
theorem len_names {D : Addr} {zs : List Value} {c : Nat} {Q : Value → Shared → Prop} (N : News h₀ L s.heap news) (hm : (D, listOf zs.toArray c) ∈ news) (hs : NamesL zs) (h : Q (.int 93 (s.toks + 1)) { s with toks := s.toks + 1 + 1 }) :
    wpAny (model prog w) A (call (.builtin "len") [.ref D]) Q E s := by
  have hlen : namesAll.length = 93 := by decide +kernel
  have hz : zs.toArray.size = 93 := by rw [List.size_toArray, hs.out.length, hlen]
  refine Calls.call_len_list ⟨_, (N _ hm).1, rfl, _, rfl⟩ (by rw [hz]; decide) ?_
  rw [hz]; exact h
end
def IfI (s : Shared) (h₀ : Heap) (L : Addr) (m : Str → Option Value) (base : List (Addr × Obj)) (s' : Shared) : Prop :=
  ∃ h' tk', s' = { s with heap := h', toks := tk' } ∧ Fr h₀ L h' m ∧ News h₀ L h' base
theorem if_cut {prog : Program} {w : World} {A : Around} {E : Value → Shared → Prop} {s : Shared} {h₀ : Heap} {env : Env} {m : Str → Option Value} {Q : Flow → Shared → Prop} {base : List (Addr × Obj)} {a : Stmt} {rest : List Stmt} {s0 : Shared} (_F : Fr h₀ env.locals s.heap m) (_N : News h₀ env.locals s.heap base)
    (h : wpAny (model prog w) A (execs [a] env) (CutPost (IfI s0 h₀ env.locals m base) Q) E s)
    (h2 : ∀ h' tk', Fr h₀ env.locals h' m → News h₀ env.locals h' base → wpAny (model prog w) A (execs rest env) Q E { s0 with heap := h', toks := tk' }) :
    wpAny (model prog w) A (execs (a :: rest) env) Q E s :=
  execs_cut [a] h fun s' i => by
    obtain ⟨h', tk', rfl, F, N⟩ := i
    exact h2 h' tk' F N
theorem if_end {s : Shared} {h₀ : Heap} {L : Addr} {m : Str → Option Value} {Q : Flow → Shared → Prop} {base : List (Addr × Obj)} {h' : Heap} {tk' : Nat} (F : Fr h₀ L h' m) (N : News h₀ L h' base) :
    CutPost (IfI s h₀ L m base) Q .next { s with heap := h', toks := tk' } := ⟨h', tk', rfl, F, N⟩
theorem kw_L5_14b : True := by
  k_with "m:execs cons" =>
    (k_here; (with_reducible show wpAny _ _ (execs (Stmt.If _ _ _ _ :: Stmt.Assign [Expr.Name (Str.ofString "is_one") _] _ _ :: _) _) _ _ _); k_dflt (refine' if_cut (s0 := s9) ?kwF ?kwN ?_ ?_; (case kwF => k_asm); (case kwN => k_asm)); all_goals intros)
  trivial
theorem kw_L5_15 : True := by
  k_with "m:call builtin:len" =>
    (k_here; (with_reducible show wpAny _ _ (call (Value.builtin "len") [Value.ref _]) _ _ _); k_dflt (refine' len_names ?kwN ?kwm ?kws ?_; (case kwN => k_asm); (case kwm => k_mem); (case kws => with_reducible assumption)))
  k_with "m:subscriptTail Name BinOp ref int" =>
    (k_here; (with_reducible show wpAny _ _ (subscriptTail _ _ (Value.ref _) (Value.int _ _)) _ _ _); k_dflt (refine' item_names ?kwN ?kwm ?kws ?kwa ?kwb ?_; (case kwN => k_asm); (case kwm => k_mem); (case kws => with_reducible assumption); (case kwa => exact (fm_ok _ (by decide)).1); (case kwb => exact (fm_ok _ (by decide)).2)); intros)
  k_with "m:subscriptTail" =>
    (k_here; (with_reducible show wpAny _ _ (subscriptTail _ _ (Value.ref _) (Value.int _ _)) _ _ _); k_dflt (refine' item_123 ?kwN ?kwm ?kwa ?kwb ?_; (case kwN => k_asm); (case kwm => k_mem); (case kwa => exact (fm_ok _ (by decide)).1); (case kwb => exact (fm_ok _ (by decide)).2)); intros)
  trivial

theorem tl : PySem.Challenge.rw_no0227_01.Holds := hd (by
  k_go0
  (all_goals try k_fold)
  k_steps
  all_goals try exact carried_head (by assumption) (by assumption)
  all_goals try exact ⟨_, _, rfl, by assumption⟩
  intro at9 t9 u9 h9 tk9 I9 o9 hat0 hatk hI9 ho9 F9 N9
  rename_i w z1 z2 z3 z4 z5 z6 z7 z8 z9 z10 z11 z12 z13 KX z15 z16 z17 T z19 z20 z21 z22 z23 z24 z25 z26 z27 script z29 z30 z31 z32 z33 z34 z35 z36 z37 z38 z39 z40 z41 z42 z43 z44 z45 z46 K0 z48 z49 z50 z51 z52 z53 z54 z55 z56 z57 z58 z59 z60 z61 z62 z63 z73 z74 z75 z76 z77 z78 Dn zs z81 hzs z83 z84 z85 z86 z87 z88 z89 z90 z91 z92 z93 z94 Dm ws z97 hws z99 z100 z101 z102 z103 z104 z105 z106 z107 z108 z109 z110 z111 s9 Q9 E9
  have hlen : at9 + 3 ≤ ((List.take 18 script ++ [31, 0, 3]).length : Int) := by
    rw [List.length_append]; show at9 + 3 ≤ (((List.take 18 script).length + 3 : Nat) : Int); omega
  have hlen2 : ((List.take 18 script ++ [31, 0, 3]).length : Int) ≤ 21 := by
    have q := List.length_take_le 18 script
    rw [List.length_append]; show (((List.take 18 script).length + 3 : Nat) : Int) ≤ 21; omega
  clear hatk
  try clear z111
  try clear z110
  try clear z109
  try clear z108
  try clear z107
  try clear z106
  try clear z105
  try clear z104
  try clear z103
  try clear z102
  try clear z101
  try clear z100
  try clear z99
  try clear z97
  try clear z94
  try clear z93
  try clear z92
  try clear z91
  try clear z90
  try clear z89
  try clear z88
  try clear z87
  try clear z86
  try clear z85
  try clear z84
  try clear z83
  try clear z81
  try clear z78
  try clear z77
  try clear z76
  try clear z75
  try clear z74
  try clear z73
  try clear e'
  try clear l1
  try clear N'
  try clear F'
  try clear a'
  try clear k'
  try clear h'
  try clear l'
  try clear D'
  try clear z63
  try clear z62
  try clear z61
  try clear z60
  try clear z59
  try clear z58
  try clear z57
  try clear z56
  try clear z55
  try clear z54
  try clear z53
  try clear z52
  try clear z51
  try clear z50
  try clear z49
  try clear z48
  try clear z46
  try clear z45
  try clear z44
  try clear z43
  try clear z42
  try clear z41
  try clear z40
  try clear z39
  try clear z38
  try clear z37
  try clear z36
  try clear z35
  try clear z34
  try clear z33
  try clear z32
  try clear z31
  try clear z30
  try clear z29
  try clear z27
  try clear z26
  try clear z25
  try clear z24
  try clear z23
  try clear z22
  try clear z21
  try clear z20
  try clear z19
  try clear z17
  try clear z16
  try clear z15
  try clear z13
  try clear z12
  try clear z11
  try clear z10
  try clear z9
  try clear z8
  try clear z7
  try clear z6
  try clear z5
  try clear z4
  try clear z3
  try clear z2
  try clear z1
  generalize List.take 18 script ++ [31, 0, 3] = nums at hws hlen hlen2
  k_steps
  all_goals try ((with_reducible show CutPost (KindsI _ _ _ _ _ _ _) _ _ _); (refine' kinds_end ?eF ?e0 ?e3 ?e1 ?e2 ?eN ?ei ?eo ?el ?es); (case eF => assumption); (case e0 => exact rfl); (case e3 => exact rfl); (case e1 => exact rfl); (case e2 => exact rfl); (case eN => exact cb_drop (by assumption) (by refine List.forall_mem_cons.mpr ⟨by k_mem, fun p hp => ?_⟩; repeat (first | exact hp | refine List.mem_cons_of_mem _ ?_ | refine List.mem_append_left _ ?_))); (case ei => assumption); (case eo => assumption); (case el => assumption); (case es => intro p hp; repeat (first | exact hp | refine List.mem_cons_of_mem _ ?_ | refine List.mem_append_left _ ?_)))
  all_goals try ((with_reducible show CutPost (KindsJ _ _ _ _ _ _ _) _ _ _); (refine' kinds_endJ ?eF ?e0 ?e3 ?e1 ?e2 ?e4 ?e5 ?e6 ?eN ?ei ?eo ?el ?es); (case eF => assumption); (case e0 => exact rfl); (case e3 => exact rfl); (case e1 => exact rfl); (case e2 => exact rfl); (case e4 => exact rfl); (case e5 => exact rfl); (case e6 => exact ⟨(fm_ok _ (by decide)).1, Int.le_of_lt_add_one (fm_ok _ (by decide)).2⟩); (case eN => exact cb_drop (by assumption) (by refine List.forall_mem_cons.mpr ⟨by k_mem, fun p hp => ?_⟩; repeat (first | exact hp | refine List.mem_cons_of_mem _ ?_ | refine List.mem_append_left _ ?_))); (case ei => assumption); (case eo => assumption); (case el => assumption); (case es => intro p hp; repeat (first | exact hp | refine List.mem_cons_of_mem _ ?_ | refine List.mem_append_left _ ?_)))
  all_goals try ((with_reducible show CutPost (IfI _ _ _ _ _) _ _ _); (refine' if_end ?eF ?eN); (case eF => assumption); (case eN => exact cb_drop (by assumption) (by intro p hp; repeat (first | exact hp | refine List.mem_cons_of_mem _ ?_ | refine List.mem_append_left _ ?_))))
  all_goals try ((with_reducible show UnrEndW _ _ _ _ _ _); exact law_back hI9 (by assumption) (cb_drop (by assumption) (by intro p hp; repeat (first | exact hp | refine List.mem_cons_of_mem _ ?_ | refine List.mem_append_left _ ?_))) rfl rfl)
)
end

end Mine

theorem PySem.Challenge.cw_no0227_01_holds : PySem.Challenge.rw_no0227_01.Holds :=
  Mine.tl
