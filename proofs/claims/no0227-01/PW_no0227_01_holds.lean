import PyProof.Rows.All
import Wide.All
import OpenK.AllK
import Wide.FinOn
import PySem.Challenge.RW_no0227_01
set_option Elab.async false
set_option maxRecDepth 100000
set_option maxHeartbeats 8000000
section
open PySem PySem.W PyProof.Rows
local macro_rules | `(tactic| k_head) => `(tactic| x_head)
open_top hd for PySem.Challenge.rw_no0227_01
end

namespace Mine
set_option maxHeartbeats 0
open PySem PySem.W PyProof.Rows PySem.W.X PySem.W.XRun
theorem memK {h0 h : Heap} {news : List (Addr × Obj)} (D : Mem h0 h [] news) : ∀ b o, h0.get? b = some o → h.get? b = some o := fun b o e => D.keep b o e (by cases hasCls o <;> rfl)

theorem around_le {α : Type} {M : Model} {A A' : Around} {t : Sem α} {Q : α → Shared → Prop} {E : Value → Shared → Prop} {s : Shared} (h : wpAny M A' t Q E s)
    (h1 : A.handled = A'.handled) (h2 : A.depth ≤ A'.depth) (h3 : A.frames = A'.frames) (h4 : A.guards = A'.guards) (h5 : A.units ≤ A'.units) : wpAny M A t Q E s :=
  fun Γ p hΓ => h Γ p ⟨hΓ.1.trans h1, Nat.le_trans hΓ.2.1 h2, fun l hl => hΓ.2.2.1 l (h3.trans hl), fun g hg => hΓ.2.2.2.1 g (h4.trans hg), Nat.le_trans hΓ.2.2.2.2 h5⟩

/-- what the making of a CheckFault leaves -/
structure FaultAt (h0 h : Heap) (e ta : Addr) (x : Str) (tk : Tok) : Prop where
  keeps : ∀ b o, h0.get? b = some o → h.get? b = some o
  new : h0.get? e = none
  newT : h0.get? ta = none
  there : ∃ dd sl, h.get? e = some { cls := .ref 44, dict := some dd, data := .fields #[.ref ta, .none, .none, .none, .bool false, .none], slots := sl }
  args : h.get? ta = some { cls := .type "tuple", data := .seq #[.str x tk] }

local macro_rules | `(tactic| k_mem) => `(tactic| first | exact List.Mem.head _ | (refine List.Mem.tail _ ?_; k_mem))
local macro_rules | `(tactic| x_close) => `(tactic| ((rename Mem _ _ _ _ => D9); refine' $(Lean.mkIdent `hret) _ _ _ _ ⟨memK D9, (D9.nw (_, _) ?m1).2, (D9.nw (_, _) ?m2).2, ⟨_, _, (D9.nw (_, _) ?m1).1⟩, (D9.nw (_, _) ?m2).1⟩; (case m1 => k_mem); (case m2 => k_mem)))
theorem run_fault {w : World} {h0 : Heap} {g : Array GenState} {d : Drawn} {t : Nat} {os : OsState} {fr : List Env} {gd : Option (List Code)} {Q E : Value → Shared → Prop} {x : Str} {tk : Tok} :
  (hd.heap_39 w.params).In h0 → (∀ e ta h' tk', FaultAt h0 h' e ta x tk → Q (.ref e) ⟨h', g, d, tk', os⟩) →
  wpAny (model Challenge.rw_no0227_01.row.prog w) { handled := none, depth := 400, frames := some fr, guards := gd, units := 200 } (call (.ref 44) [.str x tk] []) Q E ⟨h0, g, d, t, os⟩ := by
  k_fill
  intro X hret
  x_run

end Mine

namespace Mine
set_option maxHeartbeats 0
open PySem PySem.W PyProof.Rows PySem.W.X PySem.W.XRun
/-- generic_kinds(): name, the address of its list of kinds -/
def genTab : List (Str × Addr) := [(Str.mk #[73, 78, 84], 51), (Str.mk #[82, 69, 65, 76], 51), (Str.mk #[68, 66, 76, 69], 51), (Str.mk #[67, 77, 80, 76, 88], 51), (Str.mk #[77, 79, 68], 52), (Str.mk #[83, 73, 71, 78], 52), (Str.mk #[68, 73, 77], 52), (Str.mk #[77, 65, 88], 52), (Str.mk #[77, 73, 78], 52), (Str.mk #[65, 66, 83], 51), (Str.mk #[65, 73, 78, 84], 53), (Str.mk #[65, 78, 73, 78, 84], 53), (Str.mk #[78, 73, 78, 84], 53), (Str.mk #[76, 79, 71, 49, 48], 53), (Str.mk #[84, 65, 78], 53), (Str.mk #[65, 83, 73, 78], 53), (Str.mk #[65, 67, 79, 83], 53), (Str.mk #[65, 84, 65, 78], 53), (Str.mk #[65, 84, 65, 78, 50], 53), (Str.mk #[83, 73, 78, 72], 53), (Str.mk #[67, 79, 83, 72], 53), (Str.mk #[84, 65, 78, 72], 53), (Str.mk #[83, 81, 82, 84], 54), (Str.mk #[69, 88, 80], 54), (Str.mk #[76, 79, 71], 54), (Str.mk #[83, 73, 78], 54), (Str.mk #[67, 79, 83], 54)]
/-- specific_names(): name, operation, kind -/
def specTab : List (Str × Str × Int) := [(Str.mk #[73, 70, 73, 88], Str.mk #[73, 78, 84], 1), (Str.mk #[73, 68, 73, 78, 84], Str.mk #[73, 78, 84], 2), (Str.mk #[70, 76, 79, 65, 84], Str.mk #[82, 69, 65, 76], 0), (Str.mk #[83, 78, 71, 76], Str.mk #[82, 69, 65, 76], 2), (Str.mk #[73, 67, 72, 65, 82], Str.mk #[73, 67, 72, 65, 82], 5), (Str.mk #[67, 72, 65, 82], Str.mk #[67, 72, 65, 82], 0), (Str.mk #[68, 73, 78, 84], Str.mk #[65, 73, 78, 84], 2), (Str.mk #[68, 78, 73, 78, 84], Str.mk #[65, 78, 73, 78, 84], 2), (Str.mk #[73, 68, 78, 73, 78, 84], Str.mk #[78, 73, 78, 84], 2), (Str.mk #[73, 65, 66, 83], Str.mk #[65, 66, 83], 0), (Str.mk #[68, 65, 66, 83], Str.mk #[65, 66, 83], 2), (Str.mk #[67, 65, 66, 83], Str.mk #[65, 66, 83], 3), (Str.mk #[65, 77, 79, 68], Str.mk #[77, 79, 68], 1), (Str.mk #[68, 77, 79, 68], Str.mk #[77, 79, 68], 2), (Str.mk #[73, 83, 73, 71, 78], Str.mk #[83, 73, 71, 78], 0), (Str.mk #[68, 83, 73, 71, 78], Str.mk #[83, 73, 71, 78], 2), (Str.mk #[73, 68, 73, 77], Str.mk #[68, 73, 77], 0), (Str.mk #[68, 68, 73, 77], Str.mk #[68, 73, 77], 2), (Str.mk #[68, 80, 82, 79, 68], Str.mk #[68, 80, 82, 79, 68], 1), (Str.mk #[77, 65, 88, 48], Str.mk #[77, 65, 88], 0), (Str.mk #[65, 77, 65, 88, 49], Str.mk #[77, 65, 88], 1), (Str.mk #[68, 77, 65, 88, 49], Str.mk #[77, 65, 88], 2), (Str.mk #[65, 77, 65, 88, 48], Str.mk #[65, 77, 65, 88, 48], 0), (Str.mk #[77, 65, 88, 49], Str.mk #[77, 65, 88, 49], 1), (Str.mk #[77, 73, 78, 48], Str.mk #[77, 73, 78], 0), (Str.mk #[65, 77, 73, 78, 49], Str.mk #[77, 73, 78], 1), (Str.mk #[68, 77, 73, 78, 49], Str.mk #[77, 73, 78], 2), (Str.mk #[65, 77, 73, 78, 48], Str.mk #[65, 77, 73, 78, 48], 0), (Str.mk #[77, 73, 78, 49], Str.mk #[77, 73, 78, 49], 1), (Str.mk #[76, 69, 78], Str.mk #[76, 69, 78], 5), (Str.mk #[73, 78, 68, 69, 88], Str.mk #[73, 78, 68, 69, 88], 5), (Str.mk #[65, 73, 77, 65, 71], Str.mk #[65, 73, 77, 65, 71], 3), (Str.mk #[67, 79, 78, 74, 71], Str.mk #[67, 79, 78, 74, 71], 3), (Str.mk #[68, 83, 81, 82, 84], Str.mk #[83, 81, 82, 84], 2), (Str.mk #[67, 83, 81, 82, 84], Str.mk #[83, 81, 82, 84], 3), (Str.mk #[68, 69, 88, 80], Str.mk #[69, 88, 80], 2), (Str.mk #[67, 69, 88, 80], Str.mk #[69, 88, 80], 3), (Str.mk #[68, 76, 79, 71], Str.mk #[76, 79, 71], 2), (Str.mk #[67, 76, 79, 71], Str.mk #[76, 79, 71], 3), (Str.mk #[68, 83, 73, 78], Str.mk #[83, 73, 78], 2), (Str.mk #[67, 83, 73, 78], Str.mk #[83, 73, 78], 3), (Str.mk #[68, 67, 79, 83], Str.mk #[67, 79, 83], 2), (Str.mk #[67, 67, 79, 83], Str.mk #[67, 79, 83], 3), (Str.mk #[68, 76, 79, 71, 49, 48], Str.mk #[76, 79, 71, 49, 48], 2), (Str.mk #[68, 84, 65, 78], Str.mk #[84, 65, 78], 2), (Str.mk #[68, 65, 83, 73, 78], Str.mk #[65, 83, 73, 78], 2), (Str.mk #[68, 65, 67, 79, 83], Str.mk #[65, 67, 79, 83], 2), (Str.mk #[68, 65, 84, 65, 78], Str.mk #[65, 84, 65, 78], 2), (Str.mk #[68, 65, 84, 65, 78, 50], Str.mk #[65, 84, 65, 78, 50], 2), (Str.mk #[68, 83, 73, 78, 72], Str.mk #[83, 73, 78, 72], 2), (Str.mk #[68, 67, 79, 83, 72], Str.mk #[67, 79, 83, 72], 2), (Str.mk #[68, 84, 65, 78, 72], Str.mk #[84, 65, 78, 72], 2), (Str.mk #[65, 76, 79, 71], Str.mk #[76, 79, 71], 1), (Str.mk #[65, 76, 79, 71, 49, 48], Str.mk #[76, 79, 71, 49, 48], 1), (Str.mk #[76, 71, 69], Str.mk #[76, 71, 69], 5), (Str.mk #[76, 71, 84], Str.mk #[76, 71, 84], 5), (Str.mk #[76, 76, 69], Str.mk #[76, 76, 69], 5), (Str.mk #[76, 76, 84], Str.mk #[76, 76, 84], 5)]
/-- a dict of the call's own by its rows -/
def DictRows {δ : Type} (R : δ → Value → Prop) (od : Obj) (D : List (Str × δ)) : Prop := od.ExactDict ∧ ∃ es ep, od.data = .dict es ep ∧ KTD.Rows R es.toList D
local macro_rules | `(tactic| k_mem) => `(tactic| first | exact List.Mem.head _ | (refine List.Mem.tail _ ?_; k_mem))
local macro_rules | `(tactic| x_close) => `(tactic| ((rename Mem _ _ _ _ => D9); refine' $(Lean.mkIdent `hret) _ _ _ _ (memK D9) (D9.nw (_, _) ?m1).1 (D9.nw (_, _) ?m1).2 ?m2; (case m1 => k_mem); (case m2 => (refine ⟨⟨rfl, rfl, rfl⟩, _, _, rfl, ?_⟩; (repeat (first | exact KTD.Rows.nil | refine KTD.Rows.cons rfl rfl ?_)))))) 
theorem run_generic {w : World} {h0 : Heap} {g : Array GenState} {d : Drawn} {t : Nat} {os : OsState} {fr : List Env} {gd : Option (List Code)} {Q E : Value → Shared → Prop} :
  (hd.heap_39 w.params).In h0 → (∀ D od h' tk', (∀ b o, h0.get? b = some o → h'.get? b = some o) → h'.get? D = some od → h0.get? D = none → DictRows (fun (a : Addr) v => v = .ref a) od genTab → Q (.ref D) ⟨h', g, d, tk', os⟩) →
  wpAny (model Challenge.rw_no0227_01.row.prog w) { handled := none, depth := 400, frames := some fr, guards := gd, units := 200 } (call (.ref 61) [] []) Q E ⟨h0, g, d, t, os⟩ := by
  k_fill
  intro X hret
  x_run

end Mine

namespace Mine
set_option maxHeartbeats 0
open PySem PySem.W PyProof.Rows PySem.W.X PySem.W.XRun
/-- the tuple (operation, kind) -/
abbrev pairObj (op : Str) (t1 : Tok) (kd : Int) (t2 : Tok) : Obj := { cls := .type "tuple", data := .seq #[.str op t1, .int kd t2] }
def PairRow (h0 h : Heap) (p : Str × Int) (v : Value) : Prop := ∃ a t1 t2, v = .ref a ∧ h.get? a = some (pairObj p.1 t1 p.2 t2) ∧ h0.get? a = none
theorem pair_cons {h0 h : Heap} {news : List (Addr × Obj)} {e : DictEntry} {x op : Str} {kd : Int} {tk t1 t2 : Tok} {a : Addr} {es : List DictEntry} {D : List (Str × Str × Int)} (M : Mem h0 h [] news)
    (hk : e.key = .str x tk) (hv : e.val = .ref a) (hm : (a, pairObj op t1 kd t2) ∈ news) (hr : KTD.Rows (PairRow h0 h) es D) : KTD.Rows (PairRow h0 h) (e :: es) ((x, op, kd) :: D) :=
  .cons hk ⟨a, t1, t2, hv, (M.nw _ hm).1, (M.nw _ hm).2⟩ hr
local macro_rules | `(tactic| k_mem) => `(tactic| first | exact List.Mem.head _ | (refine List.Mem.tail _ ?_; k_mem))
local macro_rules | `(tactic| x_close) => `(tactic| ((rename Mem _ _ _ _ => D9); refine' $(Lean.mkIdent `hret) _ _ _ _ (memK D9) (D9.nw (_, _) ?m1).1 (D9.nw (_, _) ?m1).2 ?m2; (case m1 => k_mem); (case m2 => (refine ⟨⟨rfl, rfl, rfl⟩, _, _, rfl, ?_⟩; (repeat (first | exact KTD.Rows.nil | refine pair_cons D9 rfl rfl (by k_mem) ?_))))))
theorem run_specific {w : World} {h0 : Heap} {g : Array GenState} {d : Drawn} {t : Nat} {os : OsState} {fr : List Env} {gd : Option (List Code)} {Q E : Value → Shared → Prop} :
  (hd.heap_39 w.params).In h0 → (∀ D od h' tk', (∀ b o, h0.get? b = some o → h'.get? b = some o) → h'.get? D = some od → h0.get? D = none → DictRows (PairRow h0 h') od specTab → Q (.ref D) ⟨h', g, d, tk', os⟩) →
  wpAny (model Challenge.rw_no0227_01.row.prog w) { handled := none, depth := 400, frames := some fr, guards := gd, units := 200 } (call (.ref 68) [] []) Q E ⟨h0, g, d, t, os⟩ := by
  k_fill
  intro X hret
  x_run

end Mine

namespace Mine
open PySem PySem.W PyProof.Rows PySem.Calls
section
variable {prog : Program} {w : World} {A : Around} {E : Value → Shared → Prop} {s : Shared} {h₀ : Heap} {L : Addr} {m : Str → Option Value} {news : List (Addr × Obj)}

/-- the making of a CheckFault, in a walk -/
theorem kfault {x : Str} {tk : Tok} {fr : List Env} {Q : Value → Shared → Prop} (F : Fr h₀ L s.heap m) (X : (hd.heap_39 w.params).In h₀) (N : News h₀ L s.heap news)
    (h1 : A.handled = none) (h2 : A.depth ≤ 400) (h3 : A.frames = some fr) (h5 : A.units ≤ 200)
    (h : ∀ e ta h' tk', FaultAt s.heap h' e ta x tk → Fr h₀ L h' m → News h₀ L h' news → Q (.ref e) { s with heap := h', toks := tk' }) :
    wpAny (model Challenge.rw_no0227_01.row.prog w) A (call (.ref 44) [.str x tk] []) Q E s :=
  around_le (A' := { handled := none, depth := 400, frames := some fr, guards := A.guards, units := 200 }) (run_fault (X.keeps F.keep) fun e ta h' tk' f => h e ta h' tk' f (F.keeps f.keeps) (N.grown f.keeps)) h1 h2 h3 rfl h5

/-- a raise of what a call made, for an own class whose instances bear a dict -/
def Thrown (w : World) (E : Value → Shared → Prop) (v : Value) (s₁ : Shared) : Prop :=
  ∃ e t dd sl, v = .ref e ∧ (hd.heap_39 w.params).In s₁.heap ∧ ktsIn (hd.heap_39 w.params) 44 "BaseException" = true ∧ s₁.heap.get? e = some { cls := .ref 44, dict := some dd, data := .fields #[.ref t, .none, .none, .none, .bool false, .none], slots := sl } ∧ E (.ref e) s₁
theorem Raise_thrown {env : Env} {e : Expr} {pos : Pos} {Q : Flow → Shared → Prop} (hh : A.handled = none)
    (h : wpAny (model prog w) A (eval e env) (Thrown w E) E s) : wpAny (model prog w) A (exec (.Raise (some e) none pos) env) Q E s := by
  show wpAny _ A (do standAt pos; raiseStmt env (some (do let v ← eval e env; standAt pos; pure v)) none) Q E s
  refine wpAny_bind (wpAny_standAt ?_)
  unfold raiseStmt
  refine wpAny_bind (wpAny_bind (wpAny_mono h (fun v s₁ h₁ => wpAny_bind (wpAny_standAt (wpAny_pure ?_))) fun _ _ x => x))
  obtain ⟨e, t, dd, sl, rfl, X, hc, he, hE⟩ := h₁
  obtain ⟨nm, q', N, bs, bm, hdct, sn, sub, ab, col, dd', k0, k1, k2, k3, k5, newId, hC, hbase, hbT⟩ := kts_cls X hc
  have hcB : (Value.ref 44 :: bm).contains (.type "BaseException") = true := by rw [List.contains_cons, hbase, Bool.or_true]
  obtain ⟨hp, g, d, tk, os⟩ := s₁
  repeat (first | with_reducible refine wpAny_loadPart_at he ?_ | with_reducible refine wpAny_loadPart_at hC ?_ | (with_reducible refine wpAny_isSubtype_exc hC ?_; rw [hcB]) | wp_step)
  exact wpAny_raiseNew_none hh hE
end

section
variable {M : Model} {A : Around} {E : Value → Shared → Prop} {s' : Shared} {base g g₂ h : Heap} {outer : List Env} {L a e t : Addr} {m : Str → Option Value} {name : Str} {scope : Scope} {cd : Value} {Q : Unit → Shared → Prop} {news : List (Addr × Obj)}
theorem leave_fault {x : Str} {tk : Tok} (K : Below A base outer g) (hx : FaultAt h s'.heap e t x tk) (F : Fr g L h m) (N : News g L h news)
    (hQ : ∀ h', RaisedS base g outer e (.ref 44) t [.str x tk] news h' → RaisedK base outer e (.ref 44) t [.str x tk] news h' → g.UpToSlots h' → Q () { s' with heap := h' }) (hk : scope.kind = .function := by rfl) :
    wpAny M (A.deeper (envOf name scope L a cd)) (leaving (envOf name scope L a cd) (.ref e)) Q E s' := by
  have K' := K.push (name := name) (a := a) (cd := cd) F hk
  have hin : ∀ env ∈ (envOf name scope L a cd :: outer), ∀ b, env.frame = some b → b ∈ (envOf name scope L a cd :: outer).filterMap (·.frame) := fun env he b hb => List.mem_filterMap.mpr ⟨env, he, hb⟩
  have st : base.StaysIn (hideAll h ((envOf name scope L a cd :: outer).filterMap (·.frame))) := fun b o q => hideAll_get _ (K'.stays b o q) fun hm => by
    rw [(K'.frames.mem hm).1] at q; cases q
  have sg : ∀ b o, g.get? b = some o → b ∉ outer.filterMap (·.frame) → (hideAll h ((envOf name scope L a cd :: outer).filterMap (·.frame))).get? b = some o := fun b o q nm => hideAll_get _ (F.keep b o q) fun hm => by
    rcases kts_mem hm with z | z
    · rw [z, kts_self F] at q
      cases q
    · exact nm z
  have hl : ∀ q ∈ news, (hideAll h ((envOf name scope L a cd :: outer).filterMap (·.frame))).get? q.1 = some q.2 ∧ g.get? q.1 = none ∧ base.get? q.1 = none := fun q hq => by
    refine ⟨hideAll_get _ (N q hq).1 fun hm => ?_, (N q hq).2.2, fresh_of_stays K.stays (N q hq).2.2⟩
    obtain ⟨env, he, hf⟩ := List.mem_filterMap.mp hm
    rcases List.mem_cons.mp he with rfl | he
    · exact (N q hq).2.1 (Option.some.inj hf).symm
    · obtain ⟨o, ho, _⟩ := (K.frames.mem (List.mem_filterMap.mpr ⟨env, he, hf⟩)).2
      rw [(N q hq).2.2] at ho; cases ho
  obtain ⟨dd, sl, he⟩ := hx.there
  have hide_none : ∀ b, h.get? b = none → (hideAll h ((envOf name scope L a cd :: outer).filterMap (·.frame))).get? b = none := fun b hb => by
    cases q : (hideAll h ((envOf name scope L a cd :: outer).filterMap (·.frame))).get? b with
    | none => rfl
    | some o => have := of_hideAll _ q; rw [hb] at this; cases this
  refine wpAny_leaving_firstW (a0 := .ref t) K'.stack ((funFrames_hide K'.frames hin).of_keeps fun b o hb _ => ⟨o, hx.keeps b o hb, rfl⟩) rfl he (fun b o hb => hx.keeps b o (of_hideAll _ hb)) (hide_none _ hx.new) rfl rfl rfl fun h' hL => ?_
  obtain ⟨k1, ⟨_, _, k2⟩, k3, k4⟩ := hL
  have R : RaisedS base g outer e (.ref 44) t [.str x tk] news h' := ⟨⟨_, st, sg, hl, ⟨k1, hide_none _ hx.new, k2, k3⟩, hide_none _ hx.newT⟩, Heap.TupAt.of_slots ⟨_, _, hx.args, rfl, rfl⟩ k4⟩
  exact hQ h' R R.toK (((Heap.UpToSlots.of_keeps F.keep).trans (Heap.UpToSlots.of_keeps hx.keeps)).trans k4)
end

end Mine

namespace Mine
open PySem PySem.W PyProof.Rows PySem.Calls
local macro_rules | `(tactic| walk_at "exec Raise some none") => `(tactic| (k_here; (with_reducible show wpAny _ _ (exec (Stmt.Raise (some (Expr.Call (Expr.Name ("CheckFault" : Str) _) _ _ _)) none _) _) _ _ _); refine Raise_thrown rfl ?_))
local macro_rules | `(tactic| walk_at "call ref") => `(tactic| (k_here; (with_reducible show wpAny _ _ (call (Value.ref 44) [Value.str _ _]) _ _ _); k_dflt (refine' kfault ?F ?X ?N ?h1 ?h2 ?h3 ?h5 ?_; (case F => k_asm); (case X => k_asm); (case N => k_asm); (case h1 => exact rfl); (case h3 => exact rfl); (case h2 => first | decide | (simp only [depth_under_make, depth_under_kw, depth_in1, depth_deeper, depth_caller]; (try dsimp only [ktrTop]); omega)); (case h5 => first | decide | (simp only [units_in1, units_deeper, Around.mark_units, units_caller]; (try dsimp only [ktrTop]); omega)); k_whole); intro e' ta' h' tk' fa' F' N'; (obtain ⟨dd', sl', he'⟩ := fa'.there)))
local macro_rules | `(tactic| walk_at "Thrown") => `(tactic| (refine ⟨_, _, _, _, rfl, by k_in, by kts_isx, by assumption, ?_⟩))
local macro_rules | `(tactic| walk_at "leaving ref") => `(tactic| (k_here; first
  | ((rename FaultAt _ _ _ _ _ _ => fa9); refine' leave_fault ?K fa9 ?F ?N ?_; (case K => assumption); (case F => assumption); (case N => k_asm); k_whole; intro h' S' R' U'; (try dsimp only at S' R' U' ⊢))
  | (refine' leave_onS ?k1 ?k2 ?k3 ?k4 ?_; (case k3 => assumption); (case k2 => assumption); (case k1 => assumption); (case k4 => assumption); k_whole; intro h' S' R' U'; (try dsimp only at S' R' U' ⊢))))

def manyL : List Str := [Str.mk #[77, 65, 88], Str.mk #[77, 73, 78], Str.mk #[65, 77, 65, 88, 48], Str.mk #[77, 65, 88, 49], Str.mk #[65, 77, 73, 78, 48], Str.mk #[77, 73, 78, 49]]
def twoL : List Str := [Str.mk #[77, 79, 68], Str.mk #[83, 73, 71, 78], Str.mk #[68, 73, 77], Str.mk #[68, 80, 82, 79, 68], Str.mk #[65, 84, 65, 78, 50], Str.mk #[73, 78, 68, 69, 88], Str.mk #[76, 71, 69], Str.mk #[76, 71, 84], Str.mk #[76, 76, 69], Str.mk #[76, 76, 84]]
def countOk (op : Str) (n : Int) : Bool := if KTD.inWords op manyL = true then decide (2 ≤ n) else if KTD.inWords op twoL = true then decide (n = 2) else decide (n = 1) || ((op == Str.ofString "CMPLX") && decide (n = 2))
section
variable {op : Str} {n : Int}
theorem cc1 (h : KTD.inWords op manyL = true) (h2 : 2 ≤ n) : countOk op n = true := by simp [countOk, h, h2]
theorem cc1n (h : KTD.inWords op manyL = true) (h2 : ¬ 2 ≤ n) : countOk op n = false := by simp [countOk, h]; omega
theorem cc2 (h : KTD.inWords op manyL = false) (k : KTD.inWords op twoL = true) (h2 : n = 2) : countOk op n = true := by simp [countOk, h, k, h2]
theorem cc2n (h : KTD.inWords op manyL = false) (k : KTD.inWords op twoL = true) (h2 : n ≠ 2) : countOk op n = false := by simp [countOk, h, k, h2]
theorem cc3 (h : KTD.inWords op manyL = false) (k : KTD.inWords op twoL = false) (h2 : n = 1) : countOk op n = true := by simp [countOk, h, k, h2]
theorem cc4 (h : KTD.inWords op manyL = false) (k : KTD.inWords op twoL = false) (c : (op == Str.ofString "CMPLX") = true) (h2 : n = 2) : countOk op n = true := by simp only [countOk, h, k, c, h2]; decide
theorem cc4n (h : KTD.inWords op manyL = false) (k : KTD.inWords op twoL = false) (h1 : n ≠ 1) (h2 : n ≠ 2) : countOk op n = false := by simp [countOk, h, k, h1, h2]
theorem cc5n (h : KTD.inWords op manyL = false) (k : KTD.inWords op twoL = false) (h1 : n ≠ 1) (c : (op == Str.ofString "CMPLX") = false) : countOk op n = false := by simp only [countOk, h, k, c]; simp [h1]
end
/-- check_count, whatever it is asked -/
theorem ct_check {w : World} {p : Program} {loose : List Str} {mean : ExcName → Option Value} {mg mb : Str → Option Value} {news : List (Addr × Obj)} {op : Str} {t1 : Tok} {n : Int} {t2 : Tok}
  {dp un : Nat} {gd : Option (List Code)} {cn : Str} {cs : Scope} {a : Addr} {ccd : Value} {cl : List (Str × Addr)} {outer : List Env} {A₀ : Around} {base h₀ : Heap} {L : Addr} {m : Str → Option Value} {s : Shared}
    {Q E : Value → Shared → Prop} :
  Below A₀ base outer h₀ → Fr h₀ L s.heap m → (hd.heap_39 w.params).In h₀ → News h₀ L s.heap news → Top p loose mean mg mb h₀ → cs.kind = .function →
  dp < 350 → un < 100 →
  (∀ h' tk', countOk op n = true → 1 ≤ n → Fr h₀ L h' m → News h₀ L h' news → Q .none { s with heap := h', toks := tk' }) →
  (∀ g e ta x tk h' tk', countOk op n = false → Fr h₀ L g m → RaisedS base g (envX cn cs L a ccd cl :: outer) e (.ref 44) ta [.str x tk] news h' → g.UpToSlots h' → E (.ref e) { s with heap := h', toks := tk' }) →
  wpAny (model Challenge.rw_no0227_01.row.prog w) (ktrTop dp un gd cn cs L a ccd cl outer) (call (.ref 89) [.str op t1, .int n t2]) Q E s := by
  k_fill
  intro B F X N T hk hdp hun hret herr
  refine wpAny_call ?_
  k_dflt cell_enter
  k_steps
  all_goals first
    | (exfalso; omega)
    | exact hret _ _ (by first | exact cc1 (by assumption) (by assumption) | exact cc2 (by assumption) (by assumption) (by assumption) | exact cc3 (by assumption) (by assumption) (by assumption) | exact cc4 (by assumption) (by assumption) (by assumption) (by assumption)) (by omega) (by assumption) (by assumption)
    | exact herr _ _ _ _ _ _ _ (by first | exact cc1n (by assumption) (by assumption) | exact cc2n (by assumption) (by assumption) (by assumption) | exact cc4n (by assumption) (by assumption) (by assumption) (by assumption) | exact cc5n (by assumption) (by assumption) (by assumption) (by assumption)) (by assumption) (by assumption) (by assumption)

end Mine

namespace Mine
open PySem PySem.W PyProof.Rows PySem.Calls PyProof.V
/-- what a dict of str keys says at one key -/
structure DictHas (od : Obj) (nm : Str) (r : Option Value) : Prop where
  exact_ : od.ExactDict
  rows : ∃ es ep, od.data = .dict es ep ∧ (es.all fun e => isExactStrKey e.key) = true ∧ (es.toList.find? fun e => e.key.isStr nm).map (·.val) = r
theorem has_some {δ : Type} {R : δ → Value → Prop} {od : Obj} {D : List (Str × δ)} {nm : Str} {d : δ} (H : DictRows R od D) (e : KTD.datumAt nm D = some d) : ∃ v, DictHas od nm (some v) ∧ R d v := by
  obtain ⟨hx, es, ep, hd, hr⟩ := H
  obtain ⟨v, hv, hR⟩ := hr.find_some e
  exact ⟨v, ⟨hx, es, ep, hd, by obtain ⟨l⟩ := es; simpa using hr.exact, hv⟩, hR⟩
theorem has_none {δ : Type} {R : δ → Value → Prop} {od : Obj} {D : List (Str × δ)} {nm : Str} (H : DictRows R od D) (e : KTD.datumAt nm D = none) : DictHas od nm none := by
  obtain ⟨hx, es, ep, hd, hr⟩ := H
  exact ⟨hx, es, ep, hd, by obtain ⟨l⟩ := es; simpa using hr.exact, hr.find_none e⟩
section
variable {prog : Program} {w : World} {A : Around} {E : Value → Shared → Prop} {s : Shared} {D : Addr} {od : Obj} {nm : Str} {tk : Tok} {r : Option Value}
theorem DictHas.typeIs (H : DictHas od nm r) (hD : s.heap.get? D = some od) : s.TypeIs (.ref D) "dict" := ⟨od, hD, H.exact_.1⟩
theorem DictHas.noDict {h : Heap} (H : DictHas od nm r) (hD : h.get? D = some od) : ∀ b, Value.ref D = .ref b → ∃ ob, h.get? b = some ob ∧ ob.dict = none :=
  fun b e => by injection e with e; subst e; exact ⟨od, hD, H.exact_.2.1⟩
theorem dictGet_has {Q : Option Value → Shared → Prop} (H : DictHas od nm r) (hD : s.heap.get? D = some od) (h : Q r { s with toks := s.toks + 1 }) :
    wpAny (model prog w) A (dictGet D (.str nm tk)) Q E s := by
  obtain ⟨_, es, ep, hd, hx, hr⟩ := H
  unfold dictGet
  try with_reducible refine wpAny_holding ?_
  refine wpAny_bind (wpAny_pyHash_str (wpAny_bind (KTD.kt_dictFind_strs (s := { s with toks := s.toks + 1 }) hD hd hx ?_)))
  have hf : findBy (fun k v => v.isStr k) es nm = (es.toList.find? fun e => e.key.isStr nm).map (·.val) := by
    obtain ⟨l⟩ := es
    simp [findBy]
  rw [← hr, ← hf, findBy_of_findIdx?] at h
  cases hi : es.findIdx? fun e => e.key.isStr nm with
  | none => rw [hi] at h; exact wpAny_pure h
  | some i => rw [hi] at h; exact wpAny_bind (wpAny_dictEntries (s := { s with toks := s.toks + 1 }) hD hd (wpAny_pure h))
theorem contains_has {Q : Bool → Shared → Prop} (H : DictHas od nm r) (hD : s.heap.get? D = some od) (hs : (D == sysModules) = false) (h : Q r.isSome { s with toks := s.toks + 1 }) :
    wpAny (model prog w) A (contains (.ref D) (.str nm tk)) Q E s := by
  unfold contains
  try with_reducible refine wpAny_holding ?_
  refine wpAny_bind (wpAny_specialOf (H.typeIs hD) slot_dict_contains.lookup ?_)
  show wpAny _ _ (if (some (Value.builtin "dict.__contains__") == some Value.none) = true then _ else _) _ E s
  rw [if_neg (by rw [beq_builtin_none]; exact Bool.false_ne_true)]
  refine wpAny_bind (wpAny_callSpecialUnlessNone?_slot (name := Str.ofString "__contains__") (H.typeIs hD) slot_dict_contains
    (wpAny_call_entry slot_dict_contains (H.typeIs hD) entry_dict_contains ?_ (args_dict_contains _ _)))
  show wpAny _ _ (dictGet D (.str nm tk) >>= _) _ _ s
  refine wpAny_bind (dictGet_has H hD ?_)
  cases r with
  | some v =>
    show wpAny _ _ (ret (.bool true)) _ _ _
    exact wpAny_pure ⟨_, rfl, wpAny_truthy_bool h⟩
  | none =>
    show wpAny _ _ (Builtin.Dict.pendingKey? D (.str nm tk) >>= _) _ _ _
    exact wpAny_bind (wpAny_pendingKey_other hs (wpAny_pure ⟨_, rfl, wpAny_truthy_bool h⟩))
theorem in_has {Q : Value → Shared → Prop} (H : DictHas od nm r) (hD : s.heap.get? D = some od) (hs : (D == sysModules) = false) (h : Q (.bool r.isSome) { s with toks := s.toks + 1 }) :
    wpAny (model prog w) A (compareOp .In (.str nm tk) (.ref D)) Q E s := by
  show wpAny _ _ (do return .bool (← contains (.ref D) (.str nm tk))) Q E s
  exact wpAny_bind (contains_has H hD hs (wpAny_pure h))
theorem item_has {value slice : Expr} {v : Value} {Q : Value → Shared → Prop} (H : DictHas od nm (some v)) (hD : s.heap.get? D = some od) (h : Q v { s with toks := s.toks + 1 })
    (hs : subscripted slice false (.ref D) (.str nm tk) = operate [.ref D, .str nm tk] (getItem (.ref D) (.str nm tk)) := by with_unfolding_all rfl) (hg : ∀ r, letTemporaryGo value (.ref D) r = pure () := by intro _; with_unfolding_all rfl) :
    wpAny (model prog w) A (subscriptTail value slice (.ref D) (.str nm tk)) Q E s := by
  refine subscriptTail_builtin (H.typeIs hD) slot_dict_getitem.lookup ?_ hs hg
  unfold getItem
  try with_reducible refine wpAny_holding ?_
  refine wpAny_bind (wpAny_sequenceKey (H.typeIs hD) (by decide) ?_)
  refine wpAny_bind (wpAny_callSpecial?_slot (name := Str.ofString "__getitem__") (H.typeIs hD) slot_dict_getitem
    (wpAny_call_entry slot_dict_getitem (H.typeIs hD) entry_dict_getitem ?_ (args_dict_getitem _ _)))
  show wpAny _ _ (dictGet D (.str nm tk) >>= _) _ _ s
  exact wpAny_bind (dictGet_has H hD (wpAny_pure ⟨v, rfl, wpAny_pure h⟩))
theorem getMethod_has {pl : Sem Bool} {Q : Value × List Value → Shared → Prop} (H : DictHas od nm r) (hD : s.heap.get? D = some od) (h : Q (.builtin "dict.get", [.ref D]) s) : wpAny (model prog w) A (getMethod (.ref D) "get" pl) Q E s :=
  getMethod_builtin (H.typeIs hD) PySem.F.plainAttrs_dict PySem.F.slot_dict_get PySem.F.type_dict_get (H.noDict hD) h
theorem meets_get_has : MeetsIn prog w (Builtin.«dict.get» ⟨[.ref D, .str nm tk], []⟩) (fun _ R s => DictHas od nm r ∧ s.heap.get? D = some od ∧ (D == sysModules) = false ∧ R (.ok (.ret (r.getD .none))) { s with toks := s.toks + 1 }) :=
  .of_wp fun A R s ⟨H, hD, hs, h1⟩ => by
    show wpAny _ _ (dictGet D (.str nm tk) >>= _) _ _ s
    refine wpAny_bind (dictGet_has H hD ?_)
    cases r with
    | some v => exact wpAny_pure ⟨v, rfl, h1⟩
    | none =>
      show wpAny _ _ (Builtin.Dict.missed D (.str nm tk) >>= _) _ _ _
      exact wpAny_bind (wpAny_missed_other hs (wpAny_pure ⟨.none, rfl, h1⟩))
theorem get_has {Q : Value → Shared → Prop} (H : DictHas od nm r) (hD : s.heap.get? D = some od) (hs : (D == sysModules) = false) (h : Q (r.getD .none) { s with toks := s.toks + 1 }) :
    wpAny (model prog w) A (call (.builtin "dict.get") [.ref D, .str nm tk]) Q E s :=
  call_meetsIn PySem.F.slot_dict_get (H.typeIs hD) PySem.F.entry_dict_get (PySem.F.args_dict_get_2 _ _) (meets_get_has (od := od) (r := r)) ⟨H, hD, hs, h⟩
end

section
variable {w : World} {A : Around} {E : Value → Shared → Prop} {s : Shared} {h₀ : Heap} {L : Addr} {m : Str → Option Value} {news : List (Addr × Obj)}
theorem not_sys {h : Heap} {D : Addr} {od : Obj} (X : (hd.heap_39 w.params).In h₀) (N : News h₀ L h news) (hm : (D, od) ∈ news) : (D == sysModules) = false := by
  have := (N _ hm).2.2
  have k : ∃ o, (hd.heap_39 w.params).lookup sysModules = some o := ⟨_, rfl⟩
  obtain ⟨o, ho⟩ := k
  have := X _ _ ho
  simp only [beq_eq_false_iff_ne, ne_eq]
  rintro rfl
  simp_all
/-- the kinds that an address of genTab stands for -/
def kindsAt (a : Addr) : List Int := if a = 51 then [0, 1, 2, 3] else if a = 52 then [0, 1, 2] else if a = 53 then [1, 2] else [1, 2, 3]
def genOf (nm : Str) : Option (List Int) := (KTD.datumAt nm genTab).map kindsAt
def specOf (nm : Str) : Option (Str × Int) := KTD.datumAt nm specTab
theorem gen_addr {nm : Str} {a : Addr} (h : KTD.datumAt nm genTab = some a) : a = 51 ∨ a = 52 ∨ a = 53 ∨ a = 54 := by
  have key : ∀ l : List (Str × Addr), (∀ p ∈ l, p.2 = 51 ∨ p.2 = 52 ∨ p.2 = 53 ∨ p.2 = 54) → KTD.datumAt nm l = some a → a = 51 ∨ a = 52 ∨ a = 53 ∨ a = 54 := by
    intro l
    induction l with
    | nil => intro _ e; cases e
    | cons p l ih =>
      intro hl e
      have e' : (if decide (nm = p.1) = true then some p.2 else KTD.datumAt nm l) = some a := e
      split at e'
      · cases e'; exact hl _ (.head _)
      · exact ih (fun q hq => hl q (.tail _ hq)) e'
  exact key genTab (by decide +kernel) h
theorem kinds_at {h : Heap} (X : (hd.heap_39 w.params).In h) {a : Addr} (ha : a = 51 ∨ a = 52 ∨ a = 53 ∨ a = 54) : KTD.Nums h a (kindsAt a) := by
  have one : ∀ (b : Addr) (vs : List Value) (ns : List Int), (hd.heap_39 w.params).lookup b = some { cls := .type "list", data := .seq vs.toArray } → IntsAre vs ns → KTD.Nums h b ns :=
    fun b vs ns e i => ⟨vs, ⟨_, X _ _ e, rfl, _, rfl⟩, i⟩
  rcases ha with rfl | rfl | rfl | rfl
  · exact one 51 _ _ rfl (IntsAre.cons _ _ (IntsAre.cons _ _ (IntsAre.cons _ _ (IntsAre.cons _ _ IntsAre.nil))))
  · exact one 52 _ _ rfl (IntsAre.cons _ _ (IntsAre.cons _ _ (IntsAre.cons _ _ IntsAre.nil)))
  · exact one 53 _ _ rfl (IntsAre.cons _ _ (IntsAre.cons _ _ IntsAre.nil))
  · exact one 54 _ _ rfl (IntsAre.cons _ _ (IntsAre.cons _ _ (IntsAre.cons _ _ IntsAre.nil)))

theorem kgeneric (nm : Str) {fr : List Env} {Q : Value → Shared → Prop} (F : Fr h₀ L s.heap m) (X : (hd.heap_39 w.params).In h₀) (N : News h₀ L s.heap news)
    (h1 : A.handled = none) (h2 : A.depth ≤ 400) (h3 : A.frames = some fr) (h5 : A.units ≤ 200)
    (no : ∀ D od h' tk', genOf nm = none → DictHas od nm none → (D == sysModules) = false → Fr h₀ L h' m → News h₀ L h' ((D, od) :: news) → Q (.ref D) { s with heap := h', toks := tk' })
    (yes : ∀ D od a ks h' tk', genOf nm = some ks → KTD.Nums h₀ a ks → DictHas od nm (some (.ref a)) → (D == sysModules) = false → Fr h₀ L h' m → News h₀ L h' ((D, od) :: news) → Q (.ref D) { s with heap := h', toks := tk' }) :
    wpAny (model Challenge.rw_no0227_01.row.prog w) A (call (.ref 61) [] []) Q E s := by
  refine around_le (A' := { handled := none, depth := 400, frames := some fr, guards := A.guards, units := 200 }) (run_generic (X.keeps F.keep) fun D od h' tk' hk hD hn H => ?_) h1 h2 h3 rfl h5
  have F' : Fr h₀ L h' m := F.keeps hk
  have N' : News h₀ L h' ((D, od) :: news) := fun q hq => by
    rcases List.mem_cons.mp hq with rfl | hq
    · refine ⟨hD, fun e => ?_, kts_none F.keep hn⟩
      obtain ⟨oL, _, _, hL, _⟩ := F.ns
      have e' : D = L := e
      rw [e', hL] at hn; cases hn
    · exact N.grown hk q hq
  have hs := not_sys X N' (List.Mem.head _)
  cases e : KTD.datumAt nm genTab with
  | none => exact no D od h' tk' (by rw [genOf, e]; rfl) (has_none H e) hs F' N'
  | some a =>
    obtain ⟨v, hv, rfl⟩ := has_some H e
    exact yes D od a _ h' tk' (by rw [genOf, e]; rfl) (kinds_at X (gen_addr e)) hv hs F' N'
theorem kspecific (nm : Str) {fr : List Env} {Q : Value → Shared → Prop} (F : Fr h₀ L s.heap m) (X : (hd.heap_39 w.params).In h₀) (N : News h₀ L s.heap news)
    (h1 : A.handled = none) (h2 : A.depth ≤ 400) (h3 : A.frames = some fr) (h5 : A.units ≤ 200)
    (no : ∀ D od h' tk', specOf nm = none → DictHas od nm none → (D == sysModules) = false → Fr h₀ L h' m → News h₀ L h' ((D, od) :: news) → Q (.ref D) { s with heap := h', toks := tk' })
    (yes : ∀ D od a op t1 kd t2 h' tk', specOf nm = some (op, kd) → DictHas od nm (some (.ref a)) → (D == sysModules) = false → Fr h₀ L h' m → News h₀ L h' ((a, pairObj op t1 kd t2) :: (D, od) :: news) → Q (.ref D) { s with heap := h', toks := tk' }) :
    wpAny (model Challenge.rw_no0227_01.row.prog w) A (call (.ref 68) [] []) Q E s := by
  refine around_le (A' := { handled := none, depth := 400, frames := some fr, guards := A.guards, units := 200 }) (run_specific (X.keeps F.keep) fun D od h' tk' hk hD hn H => ?_) h1 h2 h3 rfl h5
  have F' : Fr h₀ L h' m := F.keeps hk
  have new : ∀ {b : Addr} {o : Obj} {l : List (Addr × Obj)}, News h₀ L h' l → h'.get? b = some o → s.heap.get? b = none → News h₀ L h' ((b, o) :: l) := fun {b o l} Nl hb hnb q hq => by
    rcases List.mem_cons.mp hq with rfl | hq
    · refine ⟨hb, fun e => ?_, kts_none F.keep hnb⟩
      obtain ⟨oL, _, _, hL, _⟩ := F.ns
      have e' : b = L := e
      rw [e', hL] at hnb; cases hnb
    · exact Nl q hq
  have N' : News h₀ L h' ((D, od) :: news) := new (N.grown hk) hD hn
  have hs := not_sys X N' (List.Mem.head _)
  cases e : KTD.datumAt nm specTab with
  | none => exact no D od h' tk' e (has_none H e) hs F' N'
  | some p =>
    obtain ⟨v, hv, a, t1, t2, rfl, ha, han⟩ := has_some H e
    exact yes D od a p.1 t1 p.2 t2 h' tk' e hv hs F' (new N' ha han)
/-- what generic_kinds() says of one name, not yet looked at -/
structure GenAsk (g : Heap) (od : Obj) (nm : Str) : Prop where
  out : (genOf nm = none ∧ DictHas od nm none) ∨ ∃ a ks, genOf nm = some ks ∧ KTD.Nums g a ks ∧ DictHas od nm (some (.ref a))
theorem kgeneric1 (nm : Str) {fr : List Env} {Q : Value → Shared → Prop} (F : Fr h₀ L s.heap m) (X : (hd.heap_39 w.params).In h₀) (N : News h₀ L s.heap news)
    (h1 : A.handled = none) (h2 : A.depth ≤ 400) (h3 : A.frames = some fr) (h5 : A.units ≤ 200)
    (h : ∀ D od h' tk', GenAsk h₀ od nm → (D == sysModules) = false → Fr h₀ L h' m → News h₀ L h' ((D, od) :: news) → Q (.ref D) { s with heap := h', toks := tk' }) :
    wpAny (model Challenge.rw_no0227_01.row.prog w) A (call (.ref 61) [] []) Q E s :=
  kgeneric nm F X N h1 h2 h3 h5 (fun D od h' tk' a b c d e => h D od h' tk' ⟨.inl ⟨a, b⟩⟩ c d e) (fun D od a ks h' tk' x y b c d e => h D od h' tk' ⟨.inr ⟨a, ks, x, y, b⟩⟩ c d e)
theorem in_gen {prog : Program} {D : Addr} {od : Obj} {nm : Str} {tk : Tok} {g : Heap} {Q : Value → Shared → Prop} (G : GenAsk g od nm) (hD : s.heap.get? D = some od) (hs : (D == sysModules) = false)
    (no : genOf nm = none → DictHas od nm none → Q (.bool false) { s with toks := s.toks + 1 })
    (yes : ∀ a ks, genOf nm = some ks → KTD.Nums g a ks → DictHas od nm (some (.ref a)) → Q (.bool true) { s with toks := s.toks + 1 }) :
    wpAny (model prog w) A (compareOp .In (.str nm tk) (.ref D)) Q E s := by
  rcases G.out with ⟨a, b⟩ | ⟨a, ks, x, y, b⟩
  · exact in_has b hD hs (no a b)
  · exact in_has b hD hs (yes a ks x y b)
end

end Mine

namespace Mine
open PySem PySem.W PyProof.Rows PySem.Calls

/-- RESULTS -/
def resTab : List (Str × Int) := [(Str.mk #[73, 78, 84], 0), (Str.mk #[82, 69, 65, 76], 1), (Str.mk #[68, 66, 76, 69], 2), (Str.mk #[67, 77, 80, 76, 88], 3), (Str.mk #[73, 67, 72, 65, 82], 0), (Str.mk #[67, 72, 65, 82], 5), (Str.mk #[78, 73, 78, 84], 0), (Str.mk #[68, 80, 82, 79, 68], 2), (Str.mk #[65, 77, 65, 88, 48], 1), (Str.mk #[77, 65, 88, 49], 0), (Str.mk #[65, 77, 73, 78, 48], 1), (Str.mk #[77, 73, 78, 49], 0), (Str.mk #[76, 69, 78], 0), (Str.mk #[73, 78, 68, 69, 88], 0), (Str.mk #[65, 73, 77, 65, 71], 1), (Str.mk #[76, 71, 69], 4), (Str.mk #[76, 71, 84], 4), (Str.mk #[76, 76, 69], 4), (Str.mk #[76, 76, 84], 4)]

def wantedP (op : Str) (ks : List Int) : List Int := if (op == Str.ofString "CMPLX") = true ∧ ks.headD 0 ≠ 3 then ks.map (fun _ => 1) else ks
def resultP (op : Str) (k0 : Int) : Int := if (op == Str.ofString "ABS") = true ∧ k0 = 3 then 1 else (KTD.datumAt op resTab).getD k0
section
variable {prog : Program} {w : World} {A : Around} {E : Value → Shared → Prop} {s : Shared} {D : Addr} {od : Obj} {nm : Str} {tk : Tok} {r : Option Value}
theorem meets_get2_has {dflt : Value} : MeetsIn prog w (Builtin.«dict.get» ⟨[.ref D, .str nm tk, dflt], []⟩) (fun _ R s => DictHas od nm r ∧ s.heap.get? D = some od ∧ (D == sysModules) = false ∧ R (.ok (.ret (r.getD dflt))) { s with toks := s.toks + 1 }) :=
  .of_wp fun A R s ⟨H, hD, hs, h1⟩ => by
    show wpAny _ _ (dictGet D (.str nm tk) >>= _) _ _ s
    refine wpAny_bind (dictGet_has H hD ?_)
    cases r with
    | some v => exact wpAny_pure ⟨v, rfl, h1⟩
    | none =>
      show wpAny _ _ (Builtin.Dict.missed D (.str nm tk) >>= _) _ _ _
      exact wpAny_bind (wpAny_missed_other hs (wpAny_pure ⟨dflt, rfl, h1⟩))
theorem get2_has {dflt : Value} {Q : Value → Shared → Prop} (H : DictHas od nm r) (hD : s.heap.get? D = some od) (hs : (D == sysModules) = false) (h : Q (r.getD dflt) { s with toks := s.toks + 1 }) :
    wpAny (model prog w) A (call (.builtin "dict.get") [.ref D, .str nm tk, dflt]) Q E s :=
  call_meetsIn PySem.F.slot_dict_get (H.typeIs hD) PySem.F.entry_dict_get (PySem.F.args_dict_get_3 _ _ _) (meets_get2_has (od := od) (r := r)) ⟨H, hD, hs, h⟩
theorem resRows {h : Heap} (X : (hd.heap_39 w.params).In h) : ∃ od, h.get? 47 = some od ∧ DictRows (fun (i : Int) v => ∃ t, v = .int i t) od resTab := by
  have k : ∃ od, (hd.heap_39 w.params).lookup 47 = some od ∧ DictRows (fun (i : Int) v => ∃ t, v = .int i t) od resTab := by
    refine ⟨_, rfl, ⟨rfl, rfl, rfl⟩, _, _, rfl, ?_⟩
    repeat (first | exact KTD.Rows.nil | refine KTD.Rows.cons rfl ⟨_, rfl⟩ ?_)
  obtain ⟨od, ho, hr⟩ := k
  exact ⟨od, X _ _ ho, hr⟩
theorem kresults {h₀ : Heap} {L : Addr} {m : Str → Option Value} {k0 : Int} {t0 : Tok} {Q : Value → Shared → Prop} (F : Fr h₀ L s.heap m) (X : (hd.heap_39 w.params).In h₀)
    (h : ∀ t, Q (.int ((KTD.datumAt nm resTab).getD k0) t) { s with toks := s.toks + 1 }) :
    wpAny (model prog w) A (call (.builtin "dict.get") [.ref 47, .str nm tk, .int k0 t0]) Q E s := by
  obtain ⟨od, ho, hr⟩ := resRows (X.keeps F.keep)
  cases e : KTD.datumAt nm resTab with
  | none =>
    refine get2_has (has_none hr e) ho (by decide) ?_
    have := h t0
    rw [e] at this
    exact this
  | some i =>
    obtain ⟨v, hv, t, rfl⟩ := has_some hr e
    refine get2_has hv ho (by decide) ?_
    have := h t
    rw [e] at this
    exact this
end

local macro_rules | `(tactic| walk_at "exec Raise some none") => `(tactic| (k_here; (with_reducible show wpAny _ _ (exec (Stmt.Raise (some (Expr.Call (Expr.Name ("CheckFault" : Str) _) _ _ _)) none _) _) _ _ _); refine Raise_thrown rfl ?_))
local macro_rules | `(tactic| walk_at "call ref") => `(tactic| (k_here; (with_reducible show wpAny _ _ (call (Value.ref 44) [Value.str _ _]) _ _ _); k_dflt (refine' kfault ?F ?X ?N ?h1 ?h2 ?h3 ?h5 ?_; (case F => k_asm); (case X => k_asm); (case N => k_asm); (case h1 => exact rfl); (case h3 => exact rfl); (case h2 => first | decide | (simp only [depth_under_make, depth_under_kw, depth_in1, depth_deeper, depth_caller]; (try dsimp only [ktrTop]); omega)); (case h5 => first | decide | (simp only [units_in1, units_deeper, Around.mark_units, units_caller]; (try dsimp only [ktrTop]); omega)); k_whole); intro e' ta' h' tk' fa' F' N'; (obtain ⟨dd', sl', he'⟩ := fa'.there)))
local macro_rules | `(tactic| walk_at "Thrown") => `(tactic| (refine ⟨_, _, _, _, rfl, by k_in, by kts_isx, by assumption, ?_⟩))
local macro_rules | `(tactic| walk_at "leaving ref") => `(tactic| (k_here; first
  | ((rename FaultAt _ _ _ _ _ _ => fa9); refine' leave_fault ?K fa9 ?F ?N ?_; (case K => assumption); (case F => assumption); (case N => k_asm); k_whole; intro h' S' R' U'; (try dsimp only at S' R' U' ⊢))
  | (refine' leave_onS ?k1 ?k2 ?k3 ?k4 ?_; (case k3 => assumption); (case k2 => assumption); (case k1 => assumption); (case k4 => assumption); k_whole; intro h' S' R' U'; (try dsimp only at S' R' U' ⊢))))
local macro_rules | `(tactic| walk_at "call ref") => `(tactic| (k_here; (with_reducible show wpAny _ _ (call (Value.ref 61) _) _ _ _); k_dflt (refine' kgeneric $(Lean.mkIdent `nm) ?F ?X ?N ?h1 ?h2 ?h3 ?h5 ?_ ?_; (case F => k_asm); (case X => k_asm); (case N => k_asm); (case h1 => exact rfl); (case h3 => exact rfl); (case h2 => first | decide | (simp only [depth_under_make, depth_under_kw, depth_in1, depth_deeper, depth_caller]; (try dsimp only [ktrTop]); omega)); (case h5 => first | decide | (simp only [units_in1, units_deeper, Around.mark_units, units_caller]; (try dsimp only [ktrTop]); omega)); all_goals intros)))
local macro_rules | `(tactic| walk_at "call ref") => `(tactic| (k_here; (with_reducible show wpAny _ _ (call (Value.ref 68) _) _ _ _); k_dflt (refine' kspecific $(Lean.mkIdent `nm) ?F ?X ?N ?h1 ?h2 ?h3 ?h5 ?_ ?_; (case F => k_asm); (case X => k_asm); (case N => k_asm); (case h1 => exact rfl); (case h3 => exact rfl); (case h2 => first | decide | (simp only [depth_under_make, depth_under_kw, depth_in1, depth_deeper, depth_caller]; (try dsimp only [ktrTop]); omega)); (case h5 => first | decide | (simp only [units_in1, units_deeper, Around.mark_units, units_caller]; (try dsimp only [ktrTop]); omega)); all_goals intros)))
local macro_rules | `(tactic| walk_at "compareOp In str ref") => `(tactic| (k_here; k_dflt (refine' in_has ?H ?D ?s ?_; (case D => exact News.get (by k_asm) (by k_mem)); (case H => assumption); (case s => assumption); k_whole; (try dsimp only [Option.isSome_some, Option.isSome_none]))))
local macro_rules | `(tactic| walk_at "subscriptTail") => `(tactic| (k_here; (with_reducible show wpAny _ _ (subscriptTail _ _ (Value.ref _) (Value.str _ _)) _ _ _); k_dflt (refine' item_has ?H ?D ?_; (case D => exact News.get (by k_asm) (by k_mem)); (case H => assumption); k_whole)))
local macro_rules | `(tactic| walk_at "getMethod ref") => `(tactic| (k_here; (with_reducible show wpAny _ _ (getMethod (Value.ref _) (Str.ofString "get") _) _ _ _); k_dflt (refine' getMethod_has ?H ?D ?_; (case D => exact News.get (by k_asm) (by k_mem)); (case H => assumption); k_whole)))
local macro_rules | `(tactic| walk_at "call builtin:dict.get") => `(tactic| (k_here; (with_reducible show wpAny _ _ (call (Value.builtin "dict.get") [Value.ref _, Value.str _ _]) _ _ _); k_dflt (refine' get_has ?H ?D ?s ?_; (case D => exact News.get (by k_asm) (by k_mem)); (case H => assumption); (case s => assumption); k_whole; (try dsimp only [Option.getD_some, Option.getD_none]))))

local macro_rules | `(tactic| walk_at "call builtin:dict.get") => `(tactic| (k_here; (with_reducible show wpAny _ _ (call (Value.builtin "dict.get") [Value.ref 47, Value.str _ _, Value.int _ _]) _ _ _); k_dflt (refine' kresults ?F ?X ?_; (case F => k_asm); (case X => k_asm); k_whole); intro t9))
local macro_rules | `(tactic| walk_at "eval ListComp") => `(tactic| (k_here; (try k_iter_made); (with_reducible apply ListComp_DCn); (case hh => with_unfolding_all rfl); (case hclos => with_unfolding_all rfl); (case hcell => decide); (case hkind => with_unfolding_all rfl); (case hnames => decide); (case hx => with_unfolding_all rfl); (case hs => intro _; with_unfolding_all rfl); (case' h => with_reducible refine wpAny_compPack ?_)))
theorem getD0 (ks : List Int) : ks.getD (Int.toNat 0) 0 = ks.headD 0 := by cases ks <;> rfl
theorem res1 {op : Str} {ks : List Int} (a : (op == Str.ofString "ABS") = true) (b : ks.getD (Int.toNat 0) 0 = 3) : resultP op (ks.headD 0) = 1 := by rw [getD0] at b; unfold resultP; rw [if_pos ⟨a, b⟩]
theorem res2 {op : Str} {ks : List Int} (a : (op == Str.ofString "ABS") = true) (b : ks.getD (Int.toNat 0) 0 ≠ 3) : resultP op (ks.headD 0) = (KTD.datumAt op resTab).getD (ks.getD (Int.toNat 0) 0) := by rw [getD0] at b ⊢; unfold resultP; rw [if_neg (fun h => b h.2)]
theorem res3 {op : Str} {ks : List Int} (a : (op == Str.ofString "ABS") = false) : resultP op (ks.headD 0) = (KTD.datumAt op resTab).getD (ks.getD (Int.toNat 0) 0) := by rw [getD0]; unfold resultP; rw [if_neg (fun h => by rw [a] at h; cases h.1)]
theorem wan1 {op : Str} {ks : List Int} (a : (op == Str.ofString "CMPLX") = true) (b : ks.getD (Int.toNat 0) 0 ≠ 3) : wantedP op ks = ks.map (fun _ => 1) := by rw [getD0] at b; unfold wantedP; rw [if_pos ⟨a, b⟩]
theorem wan2 {op : Str} {ks : List Int} (a : (op == Str.ofString "CMPLX") = true) (b : ks.getD (Int.toNat 0) 0 = 3) : wantedP op ks = ks := by rw [getD0] at b; unfold wantedP; rw [if_neg (fun h => h.2 b)]
theorem wan3 {op : Str} {ks : List Int} (a : (op == Str.ofString "CMPLX") = false) : wantedP op ks = ks := by unfold wantedP; rw [if_neg (fun h => by rw [a] at h; cases h.1)]


theorem ct_result {w : World} {p : Program} {loose : List Str} {mean : ExcName → Option Value} {mg mb : Str → Option Value} {op : Str} {to : Tok} {ks : List Int} {vs : List Value} {c : Nat} {kl : Addr} {news : List (Addr × Obj)}
  {dp un : Nat} {gd : Option (List Code)} {cn : Str} {cs : Scope} {a : Addr} {ccd : Value} {cl : List (Str × Addr)} {outer : List Env} {A₀ : Around} {base h₀ : Heap} {L : Addr} {m : Str → Option Value} {s : Shared} {Q E : Value → Shared → Prop} :
  Below A₀ base outer h₀ → Fr h₀ L s.heap m → (hd.heap_39 w.params).In h₀ → Top p loose mean mg mb h₀ → cs.kind = .function → dp < 350 → un < 100 → News h₀ L s.heap ((kl, listOf vs.toArray c) :: news) → IntsAre vs ks → 1 ≤ (ks.length : Int) → (ks.length : Int) ≤ 4 →
  (∀ t h' tk', Fr h₀ L h' m → News h₀ L h' ((kl, listOf vs.toArray c) :: news) → Q (.int (resultP op (ks.headD 0)) t) { s with heap := h', toks := tk' }) →
  wpAny (model Challenge.rw_no0227_01.row.prog w) (ktrTop dp un gd cn cs L a ccd cl outer) (call (.ref 101) [.str op to, .ref kl]) Q E s := by
  k_fill
  intro B F X T hk hdp hun N hi h1 h4 hret
  refine wpAny_call ?_
  k_dflt cell_enter
  k_steps
  all_goals first
    | (have q := res1 (ks := ks) (op := op) (by assumption) (by assumption); rw [q] at hret; exact hret _ _ _ (by assumption) (by assumption))
    | (have q := res2 (ks := ks) (op := op) (by assumption) (by assumption); rw [q] at hret; exact hret _ _ _ (by assumption) (by assumption))
    | (have q := res3 (ks := ks) (op := op) (by assumption); rw [q] at hret; exact hret _ _ _ (by assumption) (by assumption))
/-- a list object, whatever its other parts -/
def ListObj (o : Obj) (vs : List Value) : Prop := o.cls = .type "list" ∧ ∃ n, o.data = .seq vs.toArray n
theorem ct_wanted {w : World} {p : Program} {loose : List Str} {mean : ExcName → Option Value} {mg mb : Str → Option Value} {op : Str} {to : Tok} {ks : List Int} {vs : List Value} {c : Nat} {kl : Addr} {news : List (Addr × Obj)}
  {dp un : Nat} {gd : Option (List Code)} {cn : Str} {cs : Scope} {a : Addr} {ccd : Value} {cl : List (Str × Addr)} {outer : List Env} {A₀ : Around} {base h₀ : Heap} {L : Addr} {m : Str → Option Value} {s : Shared} {Q E : Value → Shared → Prop} :
  Below A₀ base outer h₀ → Fr h₀ L s.heap m → (hd.heap_39 w.params).In h₀ → Top p loose mean mg mb h₀ → cs.kind = .function → dp < 350 → un < 100 → News h₀ L s.heap ((kl, listOf vs.toArray c) :: news) → IntsAre vs ks → 1 ≤ (ks.length : Int) → (ks.length : Int) ≤ 4 →
  (∀ wl o ws h' tk', ListObj o ws → IntsAre ws (wantedP op ks) → Fr h₀ L h' m → News h₀ L h' ((wl, o) :: (kl, listOf vs.toArray c) :: news) → Q (.ref wl) { s with heap := h', toks := tk' }) →
  wpAny (model Challenge.rw_no0227_01.row.prog w) (ktrTop dp un gd cn cs L a ccd cl outer) (call (.ref 94) [.str op to, .ref kl]) Q E s := by
  k_fill
  intro B F X T hk hdp hun N hi h1 h4 hret
  refine wpAny_call ?_
  k_dflt cell_enter
  k_steps
  all_goals first
    | (have q := wan2 (ks := ks) (op := op) (by assumption) (by assumption); rw [q] at hret; exact hret _ _ vs _ _ ⟨rfl, _, rfl⟩ (by assumption) (by assumption) (by assumption))
    | (have q := wan3 (ks := ks) (op := op) (by assumption); rw [q] at hret; exact hret _ _ vs _ _ ⟨rfl, _, rfl⟩ (by assumption) (by assumption) (by assumption))
    | (have q := wan1 (ks := ks) (op := op) (by assumption) (by assumption); rw [q] at hret; exact hret _ _ _ _ _ ⟨rfl, _, rfl⟩ (CarriedAll.intsOf (by assumption)) (by assumption) (by assumption))

end Mine

namespace Mine
open PySem PySem.W PyProof.Rows PySem.Calls


def opLet (nm : Str) : Option (Str × List Int) := match specOf nm with
  | some p => some (p.1, [p.2])
  | none => match genOf nm with
    | some l => some (nm, l)
    | none => none
/-- choose, as a plain function -/
def chooseP (nm : Str) (ks : List Int) : Option (Str × List Int × Int) := match opLet nm with
  | none => none
  | some p => if countOk p.1 ks.length = true ∧ (∀ v ∈ ks, v = ks.headD 0 ∧ v ∈ p.2) ∧ ¬ ((p.1 == Str.ofString "CMPLX") = true ∧ ks.headD 0 = 3 ∧ (ks.length : Int) = 2) then some (p.1, wantedP p.1 ks, resultP p.1 (ks.headD 0)) else none
def letOf (nm : Str) : List Int := match opLet nm with
  | some p => p.2
  | none => []
def GoodPre (ks : List Int) (nm : Str) (pre : List Int) : Prop := ∀ v ∈ pre, v = ks.headD 0 ∧ v ∈ letOf nm
section
variable {nm op : Str} {kd kN : Int} {ks l pre post : List Int}
theorem opLet_spec (sp : specOf nm = some (op, kd)) : opLet nm = some (op, [kd]) := by unfold opLet; rw [sp]
theorem opLet_gen (sp : specOf nm = none) (g : genOf nm = some l) : opLet nm = some (nm, l) := by unfold opLet; rw [sp, g]
theorem good_nil : GoodPre ks nm [] := fun _ h => nomatch h
theorem any_in {l : List Int} {x : Int} (h : (l.any fun y => y == x) = true) : x ∈ l := by
  obtain ⟨y, hy, e⟩ := List.any_eq_true.mp h
  exact beq_iff_eq.mp e ▸ hy
theorem any_not {l : List Int} {x : Int} (h : (l.any fun y => y == x) = false) : x ∉ l := fun hx => by
  have k : (l.any fun y => y == x) = true := List.any_eq_true.mpr ⟨x, hx, beq_self_eq_true x⟩
  rw [k] at h; cases h
theorem nums_in {l : List Int} {x : Int} (h : KTD.inNums x l = true) : x ∈ l := any_in (by rw [KTD.any_nums]; exact h)
theorem nums_not {l : List Int} {x : Int} (h : KTD.inNums x l = false) : x ∉ l := any_not (by rw [KTD.any_nums]; exact h)
theorem good_step (h : GoodPre ks nm pre) (e : kN = ks.getD (Int.toNat 0) 0) (a : kN ∈ letOf nm) : GoodPre ks nm (pre ++ [kN]) := fun v hv => by
  rcases List.mem_append.mp hv with hv | hv
  · exact h v hv
  · rw [List.mem_singleton.mp hv]; exact ⟨e.trans (getD0 ks), a⟩
theorem let_spec (sp : specOf nm = some (op, kd)) : letOf nm = [kd] := by unfold letOf; rw [opLet_spec sp]
theorem let_gen (sp : specOf nm = none) (g : genOf nm = some l) : letOf nm = l := by unfold letOf; rw [opLet_gen sp g]
theorem good_spec (h : GoodPre ks nm pre) (sp : specOf nm = some (op, kd)) (e : kN = ks.getD (Int.toNat 0) 0) (a : ([kd].any fun x => x == kN) = true) : GoodPre ks nm (pre ++ [kN]) := good_step h e (by rw [let_spec sp]; exact any_in a)
theorem good_gen (h : GoodPre ks nm pre) (sp : specOf nm = none) (g : genOf nm = some l) (e : kN = ks.getD (Int.toNat 0) 0) (a : KTD.inNums kN l = true) : GoodPre ks nm (pre ++ [kN]) := good_step h e (by rw [let_gen sp g]; exact nums_in a)
theorem no_name (g : genOf nm = none) (sp : specOf nm = none) : chooseP nm ks = none := by unfold chooseP opLet; rw [sp, g]
theorem no_of {p : Str × List Int} (o : opLet nm = some p) (h : ¬ (countOk p.1 ks.length = true ∧ (∀ v ∈ ks, v = ks.headD 0 ∧ v ∈ p.2) ∧ ¬ ((p.1 == Str.ofString "CMPLX") = true ∧ ks.headD 0 = 3 ∧ (ks.length : Int) = 2))) : chooseP nm ks = none := by unfold chooseP; rw [o]; exact if_neg h
theorem no_count {p : Str × List Int} (o : opLet nm = some p) (h : countOk p.1 ks.length = false) : chooseP nm ks = none := no_of o fun q => by rw [h] at q; cases q.1
theorem no_kind {p : Str × List Int} (o : opLet nm = some p) (hm : kN ∈ ks) (h : kN ≠ ks.getD (Int.toNat 0) 0) : chooseP nm ks = none := no_of o fun q => h ((q.2.1 kN hm).1.trans (getD0 ks).symm)
theorem no_let {p : Str × List Int} (o : opLet nm = some p) (hm : kN ∈ ks) (h : kN ∉ p.2) : chooseP nm ks = none := no_of o fun q => h (q.2.1 kN hm).2
theorem no_cmplx {p : Str × List Int} (o : opLet nm = some p) (a : (p.1 == Str.ofString "CMPLX") = true) (b : ks.getD (Int.toNat 0) 0 = 3) (c : (ks.length : Int) = 2) : chooseP nm ks = none := no_of o fun q => q.2.2 ⟨a, (getD0 ks).symm.trans b, c⟩
theorem yes_of {p : Str × List Int} (o : opLet nm = some p) (a : countOk p.1 ks.length = true) (g : GoodPre ks nm ks) (c : ¬ ((p.1 == Str.ofString "CMPLX") = true ∧ ks.getD (Int.toNat 0) 0 = 3 ∧ (ks.length : Int) = 2)) : chooseP nm ks = some (p.1, wantedP p.1 ks, resultP p.1 (ks.headD 0)) := by
  unfold chooseP; rw [o]; refine if_pos ⟨a, fun v hv => ?_, by rw [← getD0]; exact c⟩
  have := g v hv
  rw [show letOf nm = p.2 by unfold letOf; rw [o]] at this
  exact this
end
theorem news_pick3 {h₀ h : Heap} {L : Addr} {p1 p2 p3 : Addr × Obj} {rest big : List (Addr × Obj)} (N : News h₀ L h big) (a1 : p1 ∈ big) (a2 : p2 ∈ big) (a3 : p3 ∈ big) (ar : ∀ p ∈ rest, p ∈ big) : News h₀ L h (p1 :: p2 :: p3 :: rest) := fun p hp => by
  rcases List.mem_cons.mp hp with rfl | hp
  · exact N _ a1
  · rcases List.mem_cons.mp hp with rfl | hp
    · exact N _ a2
    · rcases List.mem_cons.mp hp with rfl | hp
      · exact N _ a3
      · exact N _ (ar _ hp)

local macro_rules | `(tactic| walk_at "exec Raise some none") => `(tactic| (k_here; (with_reducible show wpAny _ _ (exec (Stmt.Raise (some (Expr.Call (Expr.Name ("CheckFault" : Str) _) _ _ _)) none _) _) _ _ _); refine Raise_thrown rfl ?_))
local macro_rules | `(tactic| walk_at "call ref") => `(tactic| (k_here; (with_reducible show wpAny _ _ (call (Value.ref 44) [Value.str _ _]) _ _ _); k_dflt (refine' kfault ?F ?X ?N ?h1 ?h2 ?h3 ?h5 ?_; (case F => k_asm); (case X => k_asm); (case N => k_asm); (case h1 => exact rfl); (case h3 => exact rfl); (case h2 => first | decide | (simp only [depth_under_make, depth_under_kw, depth_in1, depth_deeper, depth_caller]; (try dsimp only [ktrTop]); omega)); (case h5 => first | decide | (simp only [units_in1, units_deeper, Around.mark_units, units_caller]; (try dsimp only [ktrTop]); omega)); k_whole); intro e' ta' h' tk' fa' F' N'; (obtain ⟨dd', sl', he'⟩ := fa'.there)))
local macro_rules | `(tactic| walk_at "Thrown") => `(tactic| (refine ⟨_, _, _, _, rfl, by k_in, by kts_isx, by assumption, ?_⟩))
local macro_rules | `(tactic| walk_at "leaving ref") => `(tactic| (k_here; first
  | ((rename FaultAt _ _ _ _ _ _ => fa9); refine' leave_fault ?K fa9 ?F ?N ?_; (case K => assumption); (case F => assumption); (case N => k_asm); k_whole; intro h' S' R' U'; (try dsimp only at S' R' U' ⊢))
  | (refine' leave_onS ?k1 ?k2 ?k3 ?k4 ?_; (case k3 => assumption); (case k2 => assumption); (case k1 => assumption); (case k4 => assumption); k_whole; intro h' S' R' U'; (try dsimp only at S' R' U' ⊢))))
local macro_rules | `(tactic| walk_at "call ref") => `(tactic| (k_here; (with_reducible show wpAny _ _ (call (Value.ref 61) _) _ _ _); k_dflt (refine' kgeneric1 $(Lean.mkIdent `nm) ?F ?X ?N ?h1 ?h2 ?h3 ?h5 ?_; (case F => k_asm); (case X => k_asm); (case N => k_asm); (case h1 => exact rfl); (case h3 => exact rfl); (case h2 => first | decide | (simp only [depth_under_make, depth_under_kw, depth_in1, depth_deeper, depth_caller]; (try dsimp only [ktrTop]); omega)); (case h5 => first | decide | (simp only [units_in1, units_deeper, Around.mark_units, units_caller]; (try dsimp only [ktrTop]); omega)); all_goals intros)))
local macro_rules | `(tactic| walk_at "call ref") => `(tactic| (k_here; (with_reducible show wpAny _ _ (call (Value.ref 68) _) _ _ _); k_dflt (refine' kspecific $(Lean.mkIdent `nm) ?F ?X ?N ?h1 ?h2 ?h3 ?h5 ?_ ?_; (case F => k_asm); (case X => k_asm); (case N => k_asm); (case h1 => exact rfl); (case h3 => exact rfl); (case h2 => first | decide | (simp only [depth_under_make, depth_under_kw, depth_in1, depth_deeper, depth_caller]; (try dsimp only [ktrTop]); omega)); (case h5 => first | decide | (simp only [units_in1, units_deeper, Around.mark_units, units_caller]; (try dsimp only [ktrTop]); omega)); all_goals intros)))
local macro_rules | `(tactic| walk_at "compareOp In str ref") => `(tactic| (k_here; k_dflt (refine' in_gen ?G ?D ?s ?_ ?_; (case D => exact News.get (by k_asm) (by k_mem)); (case G => assumption); (case s => assumption); all_goals intros)))
local macro_rules | `(tactic| walk_at "compareOp In str ref") => `(tactic| (k_here; k_dflt (refine' in_has ?H ?D ?s ?_; (case D => exact News.get (by k_asm) (by k_mem)); (case H => assumption); (case s => assumption); k_whole; (try dsimp only [Option.isSome_some, Option.isSome_none]))))
local macro_rules | `(tactic| walk_at "subscriptTail") => `(tactic| (k_here; (with_reducible show wpAny _ _ (subscriptTail _ _ (Value.ref _) (Value.str _ _)) _ _ _); k_dflt (refine' item_has ?H ?D ?_; (case D => exact News.get (by k_asm) (by k_mem)); (case H => assumption); k_whole)))
local macro_rules | `(tactic| walk_at "getMethod ref") => `(tactic| (k_here; (with_reducible show wpAny _ _ (getMethod (Value.ref _) (Str.ofString "get") _) _ _ _); k_dflt (refine' getMethod_has ?H ?D ?_; (case D => exact News.get (by k_asm) (by k_mem)); (case H => assumption); k_whole)))
local macro_rules | `(tactic| walk_at "call builtin:dict.get") => `(tactic| (k_here; (with_reducible show wpAny _ _ (call (Value.builtin "dict.get") [Value.ref _, Value.str _ _]) _ _ _); k_dflt (refine' get_has ?H ?D ?s ?_; (case D => exact News.get (by k_asm) (by k_mem)); (case H => assumption); (case s => assumption); k_whole; (try dsimp only [Option.getD_some, Option.getD_none]))))

local macro_rules | `(tactic| walk_at "call ref") => `(tactic| (k_here; (with_reducible show wpAny _ _ (call (Value.ref 89) _) _ _ _); k_dflt (refine' ct_check ?B ?F ?X ?N ?T ?hk ?hd ?hu ?_ ?_; (case B => k_asm); (case F => k_asm); (case X => k_asm); (case N => k_asm); (case T => k_asm); (case hk => first | exact rfl | assumption); (case hd => first | omega | ((try simp only [depth_under_make, depth_under_kw, depth_in1, depth_deeper, depth_caller]); (try dsimp only [ktrTop]); omega)); (case hu => first | omega | ((try simp only [units_in1, units_deeper, Around.mark_units, units_caller]); (try dsimp only [ktrTop]); omega)); all_goals intros)))

theorem news_first {h₀ h : Heap} {L : Addr} {p : Addr × Obj} {big : List (Addr × Obj)} (N : News h₀ L h big) (a : p ∈ big) : News h₀ L h (p :: big) := fun q hq => by
  rcases List.mem_cons.mp hq with rfl | hq
  · exact N _ a
  · exact N _ hq
theorem raised_sub {base G h : Heap} {l : List Env} {e t : Addr} {cls : Value} {vs : List Value} {small big : List (Addr × Obj)} (R : RaisedS base G l e cls t vs big h) (hs : ∀ p ∈ small, p ∈ big) : RaisedS base G l e cls t vs small h := by
  obtain ⟨⟨B, h1, h2, h3, h4, h5⟩, h6⟩ := R
  exact ⟨⟨B, h1, h2, fun q hq => h3 q (hs q hq), h4, h5⟩, h6⟩
abbrev tripleObj (op : Str) (t1 : Tok) (wl : Addr) (r : Int) (t2 : Tok) : Obj := { cls := .type "tuple", data := .seq #[.str op t1, .ref wl, .int r t2] }

local macro_rules | `(tactic| walk_at "call ref") => `(tactic| (k_here; (with_reducible show wpAny _ _ (call (Value.ref 94) _) _ _ _); k_dflt (refine' ct_wanted ?B ?F ?X ?T ?hk ?hd ?hu ?N ?hi ?h1 ?h4 ?_; (case B => k_asm); (case F => k_asm); (case X => k_asm); (case T => k_asm); (case hk => first | exact rfl | assumption); (case hd => first | omega | ((try simp only [depth_under_make, depth_under_kw, depth_in1, depth_deeper, depth_caller]); (try dsimp only [ktrTop]); omega)); (case hu => first | omega | ((try simp only [units_in1, units_deeper, Around.mark_units, units_caller]); (try dsimp only [ktrTop]); omega)); (case N => refine news_first (by k_asm) (by k_mem)); (case hi => assumption); (case h1 => assumption); (case h4 => assumption); all_goals intros)))

local macro_rules | `(tactic| walk_at "call ref") => `(tactic| (k_here; (with_reducible show wpAny _ _ (call (Value.ref 101) _) _ _ _); k_dflt (refine' ct_result ?B ?F ?X ?T ?hk ?hd ?hu ?N ?hi ?h1 ?h4 ?_; (case B => k_asm); (case F => k_asm); (case X => k_asm); (case T => k_asm); (case hk => first | exact rfl | assumption); (case hd => first | omega | ((try simp only [depth_under_make, depth_under_kw, depth_in1, depth_deeper, depth_caller]); (try dsimp only [ktrTop]); omega)); (case hu => first | omega | ((try simp only [units_in1, units_deeper, Around.mark_units, units_caller]); (try dsimp only [ktrTop]); omega)); (case N => refine news_first (by k_asm) (by k_mem)); (case hi => assumption); (case h1 => assumption); (case h4 => assumption); all_goals intros)))


theorem ct_choose {w : World} {p : Program} {loose : List Str} {mean : ExcName → Option Value} {mg mb : Str → Option Value} {nm : Str} {tn : Tok} {ks : List Int} {vs : List Value} {c : Nat} {kl : Addr} {news : List (Addr × Obj)}
  {dp un : Nat} {gd : Option (List Code)} {cn : Str} {cs : Scope} {a : Addr} {ccd : Value} {cl : List (Str × Addr)} {outer : List Env} {A₀ : Around} {base h₀ : Heap} {L : Addr} {m : Str → Option Value} {s : Shared} {Q E : Value → Shared → Prop} :
  Below A₀ base outer h₀ → Fr h₀ L s.heap m → (hd.heap_39 w.params).In h₀ → Top p loose mean mg mb h₀ → cs.kind = .function → dp < 340 → un < 80 → News h₀ L s.heap ((kl, listOf vs.toArray c) :: news) → IntsAre vs ks → (ks.length : Int) ≤ 4 →
  (∀ T op t1 r t2 wl o ws w h' tk', chooseP nm ks = some (op, w, r) → ListObj o ws → IntsAre ws w → Fr h₀ L h' m → News h₀ L h' ((T, tripleObj op t1 wl r t2) :: (wl, o) :: (kl, listOf vs.toArray c) :: news) → Q (.ref T) { s with heap := h', toks := tk' }) →
  (∀ g e ta x tk h' tk', chooseP nm ks = none → Fr h₀ L g m → RaisedS base g (envX cn cs L a ccd cl :: outer) e (.ref 44) ta [.str x tk] ((kl, listOf vs.toArray c) :: news) h' → g.UpToSlots h' → E (.ref e) { s with heap := h', toks := tk' }) →
  wpAny (model Challenge.rw_no0227_01.row.prog w) (ktrTop dp un gd cn cs L a ccd cl outer) (call (.ref 108) [.str nm tn, .ref kl]) Q E s := by
  k_fill
  intro B F X T hk hdp hun N hi hle hret herr
  refine wpAny_call ?_
  k_dflt cell_enter
  k_with "pyIter ref" => k_search (fun pre => GoodPre ks nm pre)
  k_with "state" => first | exact good_nil | exact good_spec (by assumption) (by assumption) (by assumption) (by assumption) | exact good_gen (by assumption) (by assumption) (by assumption) (by assumption) (by assumption)
  k_steps
  all_goals first
    | exact herr _ _ _ _ _ _ _ (by first
        | exact no_name (by assumption) (by assumption)
        | exact no_count (by first | exact opLet_spec (by assumption) | exact opLet_gen (by assumption) (by assumption)) (by assumption)
        | exact no_kind (by first | exact opLet_spec (by assumption) | exact opLet_gen (by assumption) (by assumption)) kMem (by assumption)
        | exact no_let (by first | exact opLet_spec (by assumption) | exact opLet_gen (by assumption) (by assumption)) kMem (nums_not (by assumption))
        | exact no_let (by first | exact opLet_spec (by assumption) | exact opLet_gen (by assumption) (by assumption)) kMem (any_not (by assumption))
        | exact no_cmplx (by first | exact opLet_spec (by assumption) | exact opLet_gen (by assumption) (by assumption)) (by assumption) (by assumption) (by assumption)) (by assumption) (raised_sub (by assumption) (by refine List.forall_mem_cons.mpr ⟨by k_mem, fun p hp => ?_⟩; repeat (first | exact hp | refine List.mem_cons_of_mem _ ?_ | refine List.mem_append_left _ ?_))) (by assumption)
    | exact hret _ _ _ _ _ _ _ _ _ _ _ (yes_of (by first | exact opLet_spec (by assumption) | exact opLet_gen (by assumption) (by assumption)) (by assumption) (by assumption) (by first | exact fun q => absurd q.2.2 (by assumption) | exact fun q => absurd q.2.1 (by assumption) | exact fun q => Bool.false_ne_true ((Eq.symm (by assumption)).trans q.1))) (by assumption) (by assumption) (by assumption) (news_pick3 (by assumption) (by k_mem) (by k_mem) (by k_mem) (by intro p hp; repeat (first | exact hp | refine List.mem_cons_of_mem _ ?_ | refine List.mem_append_left _ ?_)))

end Mine

namespace Mine
open PySem PySem.W PyProof.Rows PySem.Calls

local macro_rules | `(tactic| walk_at "exec Raise some none") => `(tactic| (k_here; (with_reducible show wpAny _ _ (exec (Stmt.Raise (some (Expr.Call (Expr.Name ("CheckFault" : Str) _) _ _ _)) none _) _) _ _ _); refine Raise_thrown rfl ?_))
local macro_rules | `(tactic| walk_at "call ref") => `(tactic| (k_here; (with_reducible show wpAny _ _ (call (Value.ref 44) [Value.str _ _]) _ _ _); k_dflt (refine' kfault ?F ?X ?N ?h1 ?h2 ?h3 ?h5 ?_; (case F => k_asm); (case X => k_asm); (case N => k_asm); (case h1 => exact rfl); (case h3 => exact rfl); (case h2 => first | decide | (simp only [depth_under_make, depth_under_kw, depth_in1, depth_deeper, depth_caller]; (try dsimp only [ktrTop]); omega)); (case h5 => first | decide | (simp only [units_in1, units_deeper, Around.mark_units, units_caller]; (try dsimp only [ktrTop]); omega)); k_whole); intro e' ta' h' tk' fa' F' N'; (obtain ⟨dd', sl', he'⟩ := fa'.there)))
local macro_rules | `(tactic| walk_at "Thrown") => `(tactic| (refine ⟨_, _, _, _, rfl, by k_in, by kts_isx, by assumption, ?_⟩))
local macro_rules | `(tactic| walk_at "leaving ref") => `(tactic| (k_here; first
  | ((rename FaultAt _ _ _ _ _ _ => fa9); refine' leave_fault ?K fa9 ?F ?N ?_; (case K => assumption); (case F => assumption); (case N => k_asm); k_whole; intro h' S' R' U'; (try dsimp only at S' R' U' ⊢))
  | (refine' leave_onS ?k1 ?k2 ?k3 ?k4 ?_; (case k3 => assumption); (case k2 => assumption); (case k1 => assumption); (case k4 => assumption); k_whole; intro h' S' R' U'; (try dsimp only at S' R' U' ⊢))))
local macro_rules | `(tactic| walk_at "call ref") => `(tactic| (k_here; (with_reducible show wpAny _ _ (call (Value.ref 61) _) _ _ _); k_dflt (refine' kgeneric1 $(Lean.mkIdent `nm) ?F ?X ?N ?h1 ?h2 ?h3 ?h5 ?_; (case F => k_asm); (case X => k_asm); (case N => k_asm); (case h1 => exact rfl); (case h3 => exact rfl); (case h2 => first | decide | (simp only [depth_under_make, depth_under_kw, depth_in1, depth_deeper, depth_caller]; (try dsimp only [ktrTop]); omega)); (case h5 => first | decide | (simp only [units_in1, units_deeper, Around.mark_units, units_caller]; (try dsimp only [ktrTop]); omega)); all_goals intros)))
local macro_rules | `(tactic| walk_at "call ref") => `(tactic| (k_here; (with_reducible show wpAny _ _ (call (Value.ref 68) _) _ _ _); k_dflt (refine' kspecific $(Lean.mkIdent `nm) ?F ?X ?N ?h1 ?h2 ?h3 ?h5 ?_ ?_; (case F => k_asm); (case X => k_asm); (case N => k_asm); (case h1 => exact rfl); (case h3 => exact rfl); (case h2 => first | decide | (simp only [depth_under_make, depth_under_kw, depth_in1, depth_deeper, depth_caller]; (try dsimp only [ktrTop]); omega)); (case h5 => first | decide | (simp only [units_in1, units_deeper, Around.mark_units, units_caller]; (try dsimp only [ktrTop]); omega)); all_goals intros)))
local macro_rules | `(tactic| walk_at "compareOp In str ref") => `(tactic| (k_here; k_dflt (refine' in_gen ?G ?D ?s ?_ ?_; (case D => exact News.get (by k_asm) (by k_mem)); (case G => assumption); (case s => assumption); all_goals intros)))
local macro_rules | `(tactic| walk_at "compareOp In str ref") => `(tactic| (k_here; k_dflt (refine' in_has ?H ?D ?s ?_; (case D => exact News.get (by k_asm) (by k_mem)); (case H => assumption); (case s => assumption); k_whole; (try dsimp only [Option.isSome_some, Option.isSome_none]))))
local macro_rules | `(tactic| walk_at "subscriptTail") => `(tactic| (k_here; (with_reducible show wpAny _ _ (subscriptTail _ _ (Value.ref _) (Value.str _ _)) _ _ _); k_dflt (refine' item_has ?H ?D ?_; (case D => exact News.get (by k_asm) (by k_mem)); (case H => assumption); k_whole)))
local macro_rules | `(tactic| walk_at "getMethod ref") => `(tactic| (k_here; (with_reducible show wpAny _ _ (getMethod (Value.ref _) (Str.ofString "get") _) _ _ _); k_dflt (refine' getMethod_has ?H ?D ?_; (case D => exact News.get (by k_asm) (by k_mem)); (case H => assumption); k_whole)))
local macro_rules | `(tactic| walk_at "call builtin:dict.get") => `(tactic| (k_here; (with_reducible show wpAny _ _ (call (Value.builtin "dict.get") [Value.ref _, Value.str _ _]) _ _ _); k_dflt (refine' get_has ?H ?D ?s ?_; (case D => exact News.get (by k_asm) (by k_mem)); (case H => assumption); (case s => assumption); k_whole; (try dsimp only [Option.getD_some, Option.getD_none]))))

local macro_rules | `(tactic| walk_at "call ref") => `(tactic| (k_here; (with_reducible show wpAny _ _ (call (Value.ref 108) _) _ _ _); k_dflt (refine' ct_choose ?B ?F ?X ?T ?hk ?hd ?hu ?N ?hi ?h4 ?_ ?_; (case B => k_asm); (case F => k_asm); (case X => k_asm); (case T => k_asm); (case hk => first | exact rfl | assumption); (case hd => first | omega | ((try simp only [depth_under_make, depth_under_kw, depth_in1, depth_deeper, depth_caller]); (try dsimp only [ktrTop]); omega)); (case hu => first | omega | ((try simp only [units_in1, units_deeper, Around.mark_units, units_caller]); (try dsimp only [ktrTop]); omega)); (case N => refine news_first (by k_asm) (by k_mem)); (case hi => assumption); (case h4 => assumption); all_goals intros)))


theorem ct_heard {w : World} {p : Program} {loose : List Str} {mean : ExcName → Option Value} {mg mb : Str → Option Value} {nm : Str} {tn : Tok} {ks : List Int} {vs : List Value} {c : Nat} {kl : Addr} {news : List (Addr × Obj)}
  {dp un : Nat} {gd : Option (List Code)} {cn : Str} {cs : Scope} {a : Addr} {ccd : Value} {A₀ : Around} {h₀ : Heap} {L : Addr} {m : Str → Option Value} {s : Shared} {Q E : Value → Shared → Prop} :
  Below A₀ h₀ [] h₀ → Fr h₀ L s.heap m → (hd.heap_39 w.params).In h₀ → Top p loose mean mg mb h₀ → cs.kind = .function → dp < 330 → un < 60 → News h₀ L s.heap ((kl, listOf vs.toArray c) :: news) → IntsAre vs ks → (ks.length : Int) ≤ 4 →
  (∀ h' tk', chooseP nm ks = none → Fr h₀ L h' m → News h₀ L h' ((kl, listOf vs.toArray c) :: news) → Q .none { s with heap := h', toks := tk' }) →
  (∀ T op t1 r t2 wl o ws w h' tk', chooseP nm ks = some (op, w, r) → ListObj o ws → IntsAre ws w → Fr h₀ L h' m → News h₀ L h' ((T, tripleObj op t1 wl r t2) :: (wl, o) :: (kl, listOf vs.toArray c) :: news) → Q (.ref T) { s with heap := h', toks := tk' }) →
  wpAny (model Challenge.rw_no0227_01.row.prog w) (ktrTop dp un gd cn cs L a ccd [] []) (call (.ref 151) [.str nm tn, .ref kl]) Q E s := by
  k_fill
  intro B F X T hk hdp hun N hi hle hno hyes
  refine wpAny_call ?_
  k_dflt (refine' code_defS0 ?k1 ?k2 ?k3 ?k4 ?k5 ?kA ?k6 ?k7 ?k8 ?k9 ?kB ?_ ?cK ?c2 ?c3 ?c4 ?c5; (case kA => exact rfl); (case k2 => k_asm); (case k1 => k_asm); (case k3 => k_asm); (case k4 => k_asm); (case k5 => k_asm); (case k6 => k_is); (case k7 => k_is); (case k8 => ktr_room); (case k9 => first | exact binds_K (by k_in) rfl (by k_is) rfl rfl rfl | exact BindsTo.of_eq rfl); (case kB => exact locs rfl); (case cK => first | exact rfl | assumption); (case c2 => exact rfl); (case c3 => exact rfl); (case c4 => exact rfl); (case c5 => decide); k_whole; intro g' L' h' FG' F' N' B' X' T' D'; (try dsimp only); (try k_lift B'); (try k_fold))
  k_steps
  all_goals first
    | exact hno _ _ (by assumption) (by assumption) (cb_drop (by assumption) (by refine List.forall_mem_cons.mpr ⟨by k_mem, fun p hp => ?_⟩; repeat (first | exact hp | refine List.mem_cons_of_mem _ ?_ | refine List.mem_append_left _ ?_)))
    | exact hyes _ _ _ _ _ _ _ _ _ _ _ (by assumption) (by assumption) (by assumption) (by assumption) (news_pick3 (by assumption) (by k_mem) (by k_mem) (by k_mem) (by intro p hp; repeat (first | exact hp | refine List.mem_cons_of_mem _ ?_ | refine List.mem_append_left _ ?_)))

end Mine

namespace Mine
open PySem PySem.W PyProof.Rows PySem.Calls


def cut (c : Nat) : List Nat → List (List Nat)
  | [] => [[]]
  | a :: l => if a = c then [] :: cut c l else match cut c l with
    | [] => [[a]]
    | p :: r => (a :: p) :: r
theorem cut_free {c : Nat} : ∀ {p : List Nat}, c ∉ p → cut c p = [p]
  | [], _ => rfl
  | a :: p, h => by
    have h1 : a ≠ c := fun e => h (e ▸ .head _)
    have h2 := cut_free (c := c) (p := p) fun q => h (.tail _ q)
    unfold cut; rw [if_neg h1, h2]
theorem cut_app {c : Nat} {l : List Nat} : ∀ {p : List Nat}, c ∉ p → cut c (p ++ c :: l) = p :: cut c l
  | [], _ => by show cut c (c :: l) = _; unfold cut; rw [if_pos rfl]; cases l <;> rfl
  | a :: p, h => by
    have h1 : a ≠ c := fun e => h (e ▸ .head _)
    have h2 := cut_app (c := c) (l := l) (p := p) fun q => h (.tail _ q)
    show cut c (a :: (p ++ c :: l)) = _
    rw [cut, if_neg h1, h2]
theorem cut_join {c : Nat} : ∀ {l : List Str}, l ≠ [] → (∀ p ∈ l, c ∉ p.cps.toList) → cut c (Str.join ⟨#[c]⟩ l).cps.toList = l.map (·.cps.toList)
  | [], h, _ => absurd rfl h
  | [x], _, h => cut_free (h x (.head _))
  | x :: y :: r, _, h => by
    show cut c (x ++ ⟨#[c]⟩ ++ Str.join ⟨#[c]⟩ (y :: r)).cps.toList = _
    rw [Str.cps_append, Str.cps_append, Array.toList_append, Array.toList_append, List.append_assoc]
    show cut c (x.cps.toList ++ c :: (Str.join ⟨#[c]⟩ (y :: r)).cps.toList) = _
    rw [cut_app (h x (.head _)), cut_join (by simp) fun p hp => h p (.tail _ hp)]; rfl
theorem split_cut (x : Str) (c : Nat) : (Txt.split x ⟨#[c]⟩).map (·.cps.toList) = cut c x.cps.toList := by
  have h := cut_join (c := c) (l := Txt.split x ⟨#[c]⟩) (fun e => by have := split_pos x ⟨#[c]⟩; rw [e] at this; exact absurd this (by decide)) (StrLaws.split_free x c)
  rw [StrLaws.join_split] at h
  exact h.symm
theorem split_is {x : Str} {c : Nat} {l : List Str} (h : cut c x.cps.toList = l.map (·.cps.toList)) : Txt.split x ⟨#[c]⟩ = l := by
  have k := (split_cut x c).trans h
  exact List.map_inj_right (fun a b e => by cases a; cases b; exact congrArg Str.mk (Array.toList_inj.mp e)) |>.mp k
def genText : Str := Str.mk #[73, 78, 84, 58, 48, 49, 50, 51, 58, 48, 32, 82, 69, 65, 76, 58, 48, 49, 50, 51, 58, 49, 32, 68, 66, 76, 69, 58, 48, 49, 50, 51, 58, 50, 32, 67, 77, 80, 76, 88, 58, 48, 49, 50, 51, 58, 51, 32, 65, 73, 78, 84, 58, 49, 50, 58, 61, 32, 65, 78, 73, 78, 84, 58, 49, 50, 58, 61, 32, 78, 73, 78, 84, 58, 49, 50, 58, 48, 32, 65, 66, 83, 58, 48, 49, 50, 51, 58, 61, 32, 77, 79, 68, 58, 48, 49, 50, 58, 61, 32, 83, 73, 71, 78, 58, 48, 49, 50, 58, 61, 32, 68, 73, 77, 58, 48, 49, 50, 58, 61, 32, 77, 65, 88, 58, 48, 49, 50, 58, 61, 32, 77, 73, 78, 58, 48, 49, 50, 58, 61, 32, 83, 81, 82, 84, 58, 49, 50, 51, 58, 61, 32, 69, 88, 80, 58, 49, 50, 51, 58, 61, 32, 76, 79, 71, 58, 49, 50, 51, 58, 61, 32, 76, 79, 71, 49, 48, 58, 49, 50, 58, 61, 32, 83, 73, 78, 58, 49, 50, 51, 58, 61, 32, 67, 79, 83, 58, 49, 50, 51, 58, 61, 32, 84, 65, 78, 58, 49, 50, 58, 61, 32, 65, 83, 73, 78, 58, 49, 50, 58, 61, 32, 65, 67, 79, 83, 58, 49, 50, 58, 61, 32, 65, 84, 65, 78, 58, 49, 50, 58, 61, 32, 65, 84, 65, 78, 50, 58, 49, 50, 58, 61, 32, 83, 73, 78, 72, 58, 49, 50, 58, 61, 32, 67, 79, 83, 72, 58, 49, 50, 58, 61, 32, 84, 65, 78, 72, 58, 49, 50, 58, 61]
def specText : Str := Str.mk #[73, 70, 73, 88, 58, 73, 78, 84, 58, 49, 58, 48, 32, 73, 68, 73, 78, 84, 58, 73, 78, 84, 58, 50, 58, 48, 32, 70, 76, 79, 65, 84, 58, 82, 69, 65, 76, 58, 48, 58, 49, 32, 83, 78, 71, 76, 58, 82, 69, 65, 76, 58, 50, 58, 49, 32, 65, 77, 65, 88, 48, 58, 65, 77, 65, 88, 48, 58, 48, 58, 49, 32, 77, 65, 88, 49, 58, 77, 65, 88, 49, 58, 49, 58, 48, 32, 65, 77, 73, 78, 48, 58, 65, 77, 73, 78, 48, 58, 48, 58, 49, 32, 77, 73, 78, 49, 58, 77, 73, 78, 49, 58, 49, 58, 48, 32, 73, 67, 72, 65, 82, 58, 73, 67, 72, 65, 82, 58, 53, 58, 48, 32, 67, 72, 65, 82, 58, 67, 72, 65, 82, 58, 48, 58, 53, 32, 68, 73, 78, 84, 58, 65, 73, 78, 84, 58, 50, 58, 50, 32, 68, 78, 73, 78, 84, 58, 65, 78, 73, 78, 84, 58, 50, 58, 50, 32, 73, 68, 78, 73, 78, 84, 58, 78, 73, 78, 84, 58, 50, 58, 48, 32, 73, 65, 66, 83, 58, 65, 66, 83, 58, 48, 58, 48, 32, 68, 65, 66, 83, 58, 65, 66, 83, 58, 50, 58, 50, 32, 67, 65, 66, 83, 58, 65, 66, 83, 58, 51, 58, 49, 32, 65, 77, 79, 68, 58, 77, 79, 68, 58, 49, 58, 49, 32, 68, 77, 79, 68, 58, 77, 79, 68, 58, 50, 58, 50, 32, 73, 83, 73, 71, 78, 58, 83, 73, 71, 78, 58, 48, 58, 48, 32, 68, 83, 73, 71, 78, 58, 83, 73, 71, 78, 58, 50, 58, 50, 32, 73, 68, 73, 77, 58, 68, 73, 77, 58, 48, 58, 48, 32, 68, 68, 73, 77, 58, 68, 73, 77, 58, 50, 58, 50, 32, 68, 80, 82, 79, 68, 58, 68, 80, 82, 79, 68, 58, 49, 58, 50, 32, 77, 65, 88, 48, 58, 77, 65, 88, 58, 48, 58, 48, 32, 65, 77, 65, 88, 49, 58, 77, 65, 88, 58, 49, 58, 49, 32, 68, 77, 65, 88, 49, 58, 77, 65, 88, 58, 50, 58, 50, 32, 77, 73, 78, 48, 58, 77, 73, 78, 58, 48, 58, 48, 32, 65, 77, 73, 78, 49, 58, 77, 73, 78, 58, 49, 58, 49, 32, 68, 77, 73, 78, 49, 58, 77, 73, 78, 58, 50, 58, 50, 32, 76, 69, 78, 58, 76, 69, 78, 58, 53, 58, 48, 32, 73, 78, 68, 69, 88, 58, 73, 78, 68, 69, 88, 58, 53, 58, 48, 32, 65, 73, 77, 65, 71, 58, 65, 73, 77, 65, 71, 58, 51, 58, 49, 32, 67, 79, 78, 74, 71, 58, 67, 79, 78, 74, 71, 58, 51, 58, 51, 32, 68, 83, 81, 82, 84, 58, 83, 81, 82, 84, 58, 50, 58, 50, 32, 67, 83, 81, 82, 84, 58, 83, 81, 82, 84, 58, 51, 58, 51, 32, 68, 69, 88, 80, 58, 69, 88, 80, 58, 50, 58, 50, 32, 67, 69, 88, 80, 58, 69, 88, 80, 58, 51, 58, 51, 32, 65, 76, 79, 71, 58, 76, 79, 71, 58, 49, 58, 49, 32, 68, 76, 79, 71, 58, 76, 79, 71, 58, 50, 58, 50, 32, 67, 76, 79, 71, 58, 76, 79, 71, 58, 51, 58, 51, 32, 65, 76, 79, 71, 49, 48, 58, 76, 79, 71, 49, 48, 58, 49, 58, 49, 32, 68, 76, 79, 71, 49, 48, 58, 76, 79, 71, 49, 48, 58, 50, 58, 50, 32, 68, 83, 73, 78, 58, 83, 73, 78, 58, 50, 58, 50, 32, 67, 83, 73, 78, 58, 83, 73, 78, 58, 51, 58, 51, 32, 68, 67, 79, 83, 58, 67, 79, 83, 58, 50, 58, 50, 32, 67, 67, 79, 83, 58, 67, 79, 83, 58, 51, 58, 51, 32, 68, 84, 65, 78, 58, 84, 65, 78, 58, 50, 58, 50, 32, 68, 65, 83, 73, 78, 58, 65, 83, 73, 78, 58, 50, 58, 50, 32, 68, 65, 67, 79, 83, 58, 65, 67, 79, 83, 58, 50, 58, 50, 32, 68, 65, 84, 65, 78, 58, 65, 84, 65, 78, 58, 50, 58, 50, 32, 68, 65, 84, 65, 78, 50, 58, 65, 84, 65, 78, 50, 58, 50, 58, 50, 32, 68, 83, 73, 78, 72, 58, 83, 73, 78, 72, 58, 50, 58, 50, 32, 68, 67, 79, 83, 72, 58, 67, 79, 83, 72, 58, 50, 58, 50, 32, 68, 84, 65, 78, 72, 58, 84, 65, 78, 72, 58, 50, 58, 50, 32, 76, 71, 69, 58, 76, 71, 69, 58, 53, 58, 52, 32, 76, 71, 84, 58, 76, 71, 84, 58, 53, 58, 52, 32, 76, 76, 69, 58, 76, 76, 69, 58, 53, 58, 52, 32, 76, 76, 84, 58, 76, 76, 84, 58, 53, 58, 52]
def allText : Str := Str.mk #[73, 78, 84, 58, 48, 49, 50, 51, 58, 48, 32, 82, 69, 65, 76, 58, 48, 49, 50, 51, 58, 49, 32, 68, 66, 76, 69, 58, 48, 49, 50, 51, 58, 50, 32, 67, 77, 80, 76, 88, 58, 48, 49, 50, 51, 58, 51, 32, 65, 73, 78, 84, 58, 49, 50, 58, 61, 32, 65, 78, 73, 78, 84, 58, 49, 50, 58, 61, 32, 78, 73, 78, 84, 58, 49, 50, 58, 48, 32, 65, 66, 83, 58, 48, 49, 50, 51, 58, 61, 32, 77, 79, 68, 58, 48, 49, 50, 58, 61, 32, 83, 73, 71, 78, 58, 48, 49, 50, 58, 61, 32, 68, 73, 77, 58, 48, 49, 50, 58, 61, 32, 77, 65, 88, 58, 48, 49, 50, 58, 61, 32, 77, 73, 78, 58, 48, 49, 50, 58, 61, 32, 83, 81, 82, 84, 58, 49, 50, 51, 58, 61, 32, 69, 88, 80, 58, 49, 50, 51, 58, 61, 32, 76, 79, 71, 58, 49, 50, 51, 58, 61, 32, 76, 79, 71, 49, 48, 58, 49, 50, 58, 61, 32, 83, 73, 78, 58, 49, 50, 51, 58, 61, 32, 67, 79, 83, 58, 49, 50, 51, 58, 61, 32, 84, 65, 78, 58, 49, 50, 58, 61, 32, 65, 83, 73, 78, 58, 49, 50, 58, 61, 32, 65, 67, 79, 83, 58, 49, 50, 58, 61, 32, 65, 84, 65, 78, 58, 49, 50, 58, 61, 32, 65, 84, 65, 78, 50, 58, 49, 50, 58, 61, 32, 83, 73, 78, 72, 58, 49, 50, 58, 61, 32, 67, 79, 83, 72, 58, 49, 50, 58, 61, 32, 84, 65, 78, 72, 58, 49, 50, 58, 61, 32, 73, 70, 73, 88, 58, 73, 78, 84, 58, 49, 58, 48, 32, 73, 68, 73, 78, 84, 58, 73, 78, 84, 58, 50, 58, 48, 32, 70, 76, 79, 65, 84, 58, 82, 69, 65, 76, 58, 48, 58, 49, 32, 83, 78, 71, 76, 58, 82, 69, 65, 76, 58, 50, 58, 49, 32, 65, 77, 65, 88, 48, 58, 65, 77, 65, 88, 48, 58, 48, 58, 49, 32, 77, 65, 88, 49, 58, 77, 65, 88, 49, 58, 49, 58, 48, 32, 65, 77, 73, 78, 48, 58, 65, 77, 73, 78, 48, 58, 48, 58, 49, 32, 77, 73, 78, 49, 58, 77, 73, 78, 49, 58, 49, 58, 48, 32, 73, 67, 72, 65, 82, 58, 73, 67, 72, 65, 82, 58, 53, 58, 48, 32, 67, 72, 65, 82, 58, 67, 72, 65, 82, 58, 48, 58, 53, 32, 68, 73, 78, 84, 58, 65, 73, 78, 84, 58, 50, 58, 50, 32, 68, 78, 73, 78, 84, 58, 65, 78, 73, 78, 84, 58, 50, 58, 50, 32, 73, 68, 78, 73, 78, 84, 58, 78, 73, 78, 84, 58, 50, 58, 48, 32, 73, 65, 66, 83, 58, 65, 66, 83, 58, 48, 58, 48, 32, 68, 65, 66, 83, 58, 65, 66, 83, 58, 50, 58, 50, 32, 67, 65, 66, 83, 58, 65, 66, 83, 58, 51, 58, 49, 32, 65, 77, 79, 68, 58, 77, 79, 68, 58, 49, 58, 49, 32, 68, 77, 79, 68, 58, 77, 79, 68, 58, 50, 58, 50, 32, 73, 83, 73, 71, 78, 58, 83, 73, 71, 78, 58, 48, 58, 48, 32, 68, 83, 73, 71, 78, 58, 83, 73, 71, 78, 58, 50, 58, 50, 32, 73, 68, 73, 77, 58, 68, 73, 77, 58, 48, 58, 48, 32, 68, 68, 73, 77, 58, 68, 73, 77, 58, 50, 58, 50, 32, 68, 80, 82, 79, 68, 58, 68, 80, 82, 79, 68, 58, 49, 58, 50, 32, 77, 65, 88, 48, 58, 77, 65, 88, 58, 48, 58, 48, 32, 65, 77, 65, 88, 49, 58, 77, 65, 88, 58, 49, 58, 49, 32, 68, 77, 65, 88, 49, 58, 77, 65, 88, 58, 50, 58, 50, 32, 77, 73, 78, 48, 58, 77, 73, 78, 58, 48, 58, 48, 32, 65, 77, 73, 78, 49, 58, 77, 73, 78, 58, 49, 58, 49, 32, 68, 77, 73, 78, 49, 58, 77, 73, 78, 58, 50, 58, 50, 32, 76, 69, 78, 58, 76, 69, 78, 58, 53, 58, 48, 32, 73, 78, 68, 69, 88, 58, 73, 78, 68, 69, 88, 58, 53, 58, 48, 32, 65, 73, 77, 65, 71, 58, 65, 73, 77, 65, 71, 58, 51, 58, 49, 32, 67, 79, 78, 74, 71, 58, 67, 79, 78, 74, 71, 58, 51, 58, 51, 32, 68, 83, 81, 82, 84, 58, 83, 81, 82, 84, 58, 50, 58, 50, 32, 67, 83, 81, 82, 84, 58, 83, 81, 82, 84, 58, 51, 58, 51, 32, 68, 69, 88, 80, 58, 69, 88, 80, 58, 50, 58, 50, 32, 67, 69, 88, 80, 58, 69, 88, 80, 58, 51, 58, 51, 32, 65, 76, 79, 71, 58, 76, 79, 71, 58, 49, 58, 49, 32, 68, 76, 79, 71, 58, 76, 79, 71, 58, 50, 58, 50, 32, 67, 76, 79, 71, 58, 76, 79, 71, 58, 51, 58, 51, 32, 65, 76, 79, 71, 49, 48, 58, 76, 79, 71, 49, 48, 58, 49, 58, 49, 32, 68, 76, 79, 71, 49, 48, 58, 76, 79, 71, 49, 48, 58, 50, 58, 50, 32, 68, 83, 73, 78, 58, 83, 73, 78, 58, 50, 58, 50, 32, 67, 83, 73, 78, 58, 83, 73, 78, 58, 51, 58, 51, 32, 68, 67, 79, 83, 58, 67, 79, 83, 58, 50, 58, 50, 32, 67, 67, 79, 83, 58, 67, 79, 83, 58, 51, 58, 51, 32, 68, 84, 65, 78, 58, 84, 65, 78, 58, 50, 58, 50, 32, 68, 65, 83, 73, 78, 58, 65, 83, 73, 78, 58, 50, 58, 50, 32, 68, 65, 67, 79, 83, 58, 65, 67, 79, 83, 58, 50, 58, 50, 32, 68, 65, 84, 65, 78, 58, 65, 84, 65, 78, 58, 50, 58, 50, 32, 68, 65, 84, 65, 78, 50, 58, 65, 84, 65, 78, 50, 58, 50, 58, 50, 32, 68, 83, 73, 78, 72, 58, 83, 73, 78, 72, 58, 50, 58, 50, 32, 68, 67, 79, 83, 72, 58, 67, 79, 83, 72, 58, 50, 58, 50, 32, 68, 84, 65, 78, 72, 58, 84, 65, 78, 72, 58, 50, 58, 50, 32, 76, 71, 69, 58, 76, 71, 69, 58, 53, 58, 52, 32, 76, 71, 84, 58, 76, 71, 84, 58, 53, 58, 52, 32, 76, 76, 69, 58, 76, 76, 69, 58, 53, 58, 52, 32, 76, 76, 84, 58, 76, 76, 84, 58, 53, 58, 52]
/-- the rows of the law's two texts: name, operation, kinds, result -/
def rowTab : List (Str × Option Str × Str × Str) := [
  (Str.mk #[73, 78, 84], none, Str.mk #[48, 49, 50, 51], Str.mk #[48]),
  (Str.mk #[82, 69, 65, 76], none, Str.mk #[48, 49, 50, 51], Str.mk #[49]),
  (Str.mk #[68, 66, 76, 69], none, Str.mk #[48, 49, 50, 51], Str.mk #[50]),
  (Str.mk #[67, 77, 80, 76, 88], none, Str.mk #[48, 49, 50, 51], Str.mk #[51]),
  (Str.mk #[65, 73, 78, 84], none, Str.mk #[49, 50], Str.mk #[61]),
  (Str.mk #[65, 78, 73, 78, 84], none, Str.mk #[49, 50], Str.mk #[61]),
  (Str.mk #[78, 73, 78, 84], none, Str.mk #[49, 50], Str.mk #[48]),
  (Str.mk #[65, 66, 83], none, Str.mk #[48, 49, 50, 51], Str.mk #[61]),
  (Str.mk #[77, 79, 68], none, Str.mk #[48, 49, 50], Str.mk #[61]),
  (Str.mk #[83, 73, 71, 78], none, Str.mk #[48, 49, 50], Str.mk #[61]),
  (Str.mk #[68, 73, 77], none, Str.mk #[48, 49, 50], Str.mk #[61]),
  (Str.mk #[77, 65, 88], none, Str.mk #[48, 49, 50], Str.mk #[61]),
  (Str.mk #[77, 73, 78], none, Str.mk #[48, 49, 50], Str.mk #[61]),
  (Str.mk #[83, 81, 82, 84], none, Str.mk #[49, 50, 51], Str.mk #[61]),
  (Str.mk #[69, 88, 80], none, Str.mk #[49, 50, 51], Str.mk #[61]),
  (Str.mk #[76, 79, 71], none, Str.mk #[49, 50, 51], Str.mk #[61]),
  (Str.mk #[76, 79, 71, 49, 48], none, Str.mk #[49, 50], Str.mk #[61]),
  (Str.mk #[83, 73, 78], none, Str.mk #[49, 50, 51], Str.mk #[61]),
  (Str.mk #[67, 79, 83], none, Str.mk #[49, 50, 51], Str.mk #[61]),
  (Str.mk #[84, 65, 78], none, Str.mk #[49, 50], Str.mk #[61]),
  (Str.mk #[65, 83, 73, 78], none, Str.mk #[49, 50], Str.mk #[61]),
  (Str.mk #[65, 67, 79, 83], none, Str.mk #[49, 50], Str.mk #[61]),
  (Str.mk #[65, 84, 65, 78], none, Str.mk #[49, 50], Str.mk #[61]),
  (Str.mk #[65, 84, 65, 78, 50], none, Str.mk #[49, 50], Str.mk #[61]),
  (Str.mk #[83, 73, 78, 72], none, Str.mk #[49, 50], Str.mk #[61]),
  (Str.mk #[67, 79, 83, 72], none, Str.mk #[49, 50], Str.mk #[61]),
  (Str.mk #[84, 65, 78, 72], none, Str.mk #[49, 50], Str.mk #[61]),
  (Str.mk #[73, 70, 73, 88], some (Str.mk #[73, 78, 84]), Str.mk #[49], Str.mk #[48]),
  (Str.mk #[73, 68, 73, 78, 84], some (Str.mk #[73, 78, 84]), Str.mk #[50], Str.mk #[48]),
  (Str.mk #[70, 76, 79, 65, 84], some (Str.mk #[82, 69, 65, 76]), Str.mk #[48], Str.mk #[49]),
  (Str.mk #[83, 78, 71, 76], some (Str.mk #[82, 69, 65, 76]), Str.mk #[50], Str.mk #[49]),
  (Str.mk #[65, 77, 65, 88, 48], some (Str.mk #[65, 77, 65, 88, 48]), Str.mk #[48], Str.mk #[49]),
  (Str.mk #[77, 65, 88, 49], some (Str.mk #[77, 65, 88, 49]), Str.mk #[49], Str.mk #[48]),
  (Str.mk #[65, 77, 73, 78, 48], some (Str.mk #[65, 77, 73, 78, 48]), Str.mk #[48], Str.mk #[49]),
  (Str.mk #[77, 73, 78, 49], some (Str.mk #[77, 73, 78, 49]), Str.mk #[49], Str.mk #[48]),
  (Str.mk #[73, 67, 72, 65, 82], some (Str.mk #[73, 67, 72, 65, 82]), Str.mk #[53], Str.mk #[48]),
  (Str.mk #[67, 72, 65, 82], some (Str.mk #[67, 72, 65, 82]), Str.mk #[48], Str.mk #[53]),
  (Str.mk #[68, 73, 78, 84], some (Str.mk #[65, 73, 78, 84]), Str.mk #[50], Str.mk #[50]),
  (Str.mk #[68, 78, 73, 78, 84], some (Str.mk #[65, 78, 73, 78, 84]), Str.mk #[50], Str.mk #[50]),
  (Str.mk #[73, 68, 78, 73, 78, 84], some (Str.mk #[78, 73, 78, 84]), Str.mk #[50], Str.mk #[48]),
  (Str.mk #[73, 65, 66, 83], some (Str.mk #[65, 66, 83]), Str.mk #[48], Str.mk #[48]),
  (Str.mk #[68, 65, 66, 83], some (Str.mk #[65, 66, 83]), Str.mk #[50], Str.mk #[50]),
  (Str.mk #[67, 65, 66, 83], some (Str.mk #[65, 66, 83]), Str.mk #[51], Str.mk #[49]),
  (Str.mk #[65, 77, 79, 68], some (Str.mk #[77, 79, 68]), Str.mk #[49], Str.mk #[49]),
  (Str.mk #[68, 77, 79, 68], some (Str.mk #[77, 79, 68]), Str.mk #[50], Str.mk #[50]),
  (Str.mk #[73, 83, 73, 71, 78], some (Str.mk #[83, 73, 71, 78]), Str.mk #[48], Str.mk #[48]),
  (Str.mk #[68, 83, 73, 71, 78], some (Str.mk #[83, 73, 71, 78]), Str.mk #[50], Str.mk #[50]),
  (Str.mk #[73, 68, 73, 77], some (Str.mk #[68, 73, 77]), Str.mk #[48], Str.mk #[48]),
  (Str.mk #[68, 68, 73, 77], some (Str.mk #[68, 73, 77]), Str.mk #[50], Str.mk #[50]),
  (Str.mk #[68, 80, 82, 79, 68], some (Str.mk #[68, 80, 82, 79, 68]), Str.mk #[49], Str.mk #[50]),
  (Str.mk #[77, 65, 88, 48], some (Str.mk #[77, 65, 88]), Str.mk #[48], Str.mk #[48]),
  (Str.mk #[65, 77, 65, 88, 49], some (Str.mk #[77, 65, 88]), Str.mk #[49], Str.mk #[49]),
  (Str.mk #[68, 77, 65, 88, 49], some (Str.mk #[77, 65, 88]), Str.mk #[50], Str.mk #[50]),
  (Str.mk #[77, 73, 78, 48], some (Str.mk #[77, 73, 78]), Str.mk #[48], Str.mk #[48]),
  (Str.mk #[65, 77, 73, 78, 49], some (Str.mk #[77, 73, 78]), Str.mk #[49], Str.mk #[49]),
  (Str.mk #[68, 77, 73, 78, 49], some (Str.mk #[77, 73, 78]), Str.mk #[50], Str.mk #[50]),
  (Str.mk #[76, 69, 78], some (Str.mk #[76, 69, 78]), Str.mk #[53], Str.mk #[48]),
  (Str.mk #[73, 78, 68, 69, 88], some (Str.mk #[73, 78, 68, 69, 88]), Str.mk #[53], Str.mk #[48]),
  (Str.mk #[65, 73, 77, 65, 71], some (Str.mk #[65, 73, 77, 65, 71]), Str.mk #[51], Str.mk #[49]),
  (Str.mk #[67, 79, 78, 74, 71], some (Str.mk #[67, 79, 78, 74, 71]), Str.mk #[51], Str.mk #[51]),
  (Str.mk #[68, 83, 81, 82, 84], some (Str.mk #[83, 81, 82, 84]), Str.mk #[50], Str.mk #[50]),
  (Str.mk #[67, 83, 81, 82, 84], some (Str.mk #[83, 81, 82, 84]), Str.mk #[51], Str.mk #[51]),
  (Str.mk #[68, 69, 88, 80], some (Str.mk #[69, 88, 80]), Str.mk #[50], Str.mk #[50]),
  (Str.mk #[67, 69, 88, 80], some (Str.mk #[69, 88, 80]), Str.mk #[51], Str.mk #[51]),
  (Str.mk #[65, 76, 79, 71], some (Str.mk #[76, 79, 71]), Str.mk #[49], Str.mk #[49]),
  (Str.mk #[68, 76, 79, 71], some (Str.mk #[76, 79, 71]), Str.mk #[50], Str.mk #[50]),
  (Str.mk #[67, 76, 79, 71], some (Str.mk #[76, 79, 71]), Str.mk #[51], Str.mk #[51]),
  (Str.mk #[65, 76, 79, 71, 49, 48], some (Str.mk #[76, 79, 71, 49, 48]), Str.mk #[49], Str.mk #[49]),
  (Str.mk #[68, 76, 79, 71, 49, 48], some (Str.mk #[76, 79, 71, 49, 48]), Str.mk #[50], Str.mk #[50]),
  (Str.mk #[68, 83, 73, 78], some (Str.mk #[83, 73, 78]), Str.mk #[50], Str.mk #[50]),
  (Str.mk #[67, 83, 73, 78], some (Str.mk #[83, 73, 78]), Str.mk #[51], Str.mk #[51]),
  (Str.mk #[68, 67, 79, 83], some (Str.mk #[67, 79, 83]), Str.mk #[50], Str.mk #[50]),
  (Str.mk #[67, 67, 79, 83], some (Str.mk #[67, 79, 83]), Str.mk #[51], Str.mk #[51]),
  (Str.mk #[68, 84, 65, 78], some (Str.mk #[84, 65, 78]), Str.mk #[50], Str.mk #[50]),
  (Str.mk #[68, 65, 83, 73, 78], some (Str.mk #[65, 83, 73, 78]), Str.mk #[50], Str.mk #[50]),
  (Str.mk #[68, 65, 67, 79, 83], some (Str.mk #[65, 67, 79, 83]), Str.mk #[50], Str.mk #[50]),
  (Str.mk #[68, 65, 84, 65, 78], some (Str.mk #[65, 84, 65, 78]), Str.mk #[50], Str.mk #[50]),
  (Str.mk #[68, 65, 84, 65, 78, 50], some (Str.mk #[65, 84, 65, 78, 50]), Str.mk #[50], Str.mk #[50]),
  (Str.mk #[68, 83, 73, 78, 72], some (Str.mk #[83, 73, 78, 72]), Str.mk #[50], Str.mk #[50]),
  (Str.mk #[68, 67, 79, 83, 72], some (Str.mk #[67, 79, 83, 72]), Str.mk #[50], Str.mk #[50]),
  (Str.mk #[68, 84, 65, 78, 72], some (Str.mk #[84, 65, 78, 72]), Str.mk #[50], Str.mk #[50]),
  (Str.mk #[76, 71, 69], some (Str.mk #[76, 71, 69]), Str.mk #[53], Str.mk #[52]),
  (Str.mk #[76, 71, 84], some (Str.mk #[76, 71, 84]), Str.mk #[53], Str.mk #[52]),
  (Str.mk #[76, 76, 69], some (Str.mk #[76, 76, 69]), Str.mk #[53], Str.mk #[52]),
  (Str.mk #[76, 76, 84], some (Str.mk #[76, 76, 84]), Str.mk #[53], Str.mk #[52])]
def rowParts (p : Str × Option Str × Str × Str) : List Str := match p.2.1 with
  | none => [p.1, p.2.2.1, p.2.2.2]
  | some o => [p.1, o, p.2.2.1, p.2.2.2]
def rowStrs : List Str := [
  Str.mk #[73, 78, 84, 58, 48, 49, 50, 51, 58, 48],
  Str.mk #[82, 69, 65, 76, 58, 48, 49, 50, 51, 58, 49],
  Str.mk #[68, 66, 76, 69, 58, 48, 49, 50, 51, 58, 50],
  Str.mk #[67, 77, 80, 76, 88, 58, 48, 49, 50, 51, 58, 51],
  Str.mk #[65, 73, 78, 84, 58, 49, 50, 58, 61],
  Str.mk #[65, 78, 73, 78, 84, 58, 49, 50, 58, 61],
  Str.mk #[78, 73, 78, 84, 58, 49, 50, 58, 48],
  Str.mk #[65, 66, 83, 58, 48, 49, 50, 51, 58, 61],
  Str.mk #[77, 79, 68, 58, 48, 49, 50, 58, 61],
  Str.mk #[83, 73, 71, 78, 58, 48, 49, 50, 58, 61],
  Str.mk #[68, 73, 77, 58, 48, 49, 50, 58, 61],
  Str.mk #[77, 65, 88, 58, 48, 49, 50, 58, 61],
  Str.mk #[77, 73, 78, 58, 48, 49, 50, 58, 61],
  Str.mk #[83, 81, 82, 84, 58, 49, 50, 51, 58, 61],
  Str.mk #[69, 88, 80, 58, 49, 50, 51, 58, 61],
  Str.mk #[76, 79, 71, 58, 49, 50, 51, 58, 61],
  Str.mk #[76, 79, 71, 49, 48, 58, 49, 50, 58, 61],
  Str.mk #[83, 73, 78, 58, 49, 50, 51, 58, 61],
  Str.mk #[67, 79, 83, 58, 49, 50, 51, 58, 61],
  Str.mk #[84, 65, 78, 58, 49, 50, 58, 61],
  Str.mk #[65, 83, 73, 78, 58, 49, 50, 58, 61],
  Str.mk #[65, 67, 79, 83, 58, 49, 50, 58, 61],
  Str.mk #[65, 84, 65, 78, 58, 49, 50, 58, 61],
  Str.mk #[65, 84, 65, 78, 50, 58, 49, 50, 58, 61],
  Str.mk #[83, 73, 78, 72, 58, 49, 50, 58, 61],
  Str.mk #[67, 79, 83, 72, 58, 49, 50, 58, 61],
  Str.mk #[84, 65, 78, 72, 58, 49, 50, 58, 61],
  Str.mk #[73, 70, 73, 88, 58, 73, 78, 84, 58, 49, 58, 48],
  Str.mk #[73, 68, 73, 78, 84, 58, 73, 78, 84, 58, 50, 58, 48],
  Str.mk #[70, 76, 79, 65, 84, 58, 82, 69, 65, 76, 58, 48, 58, 49],
  Str.mk #[83, 78, 71, 76, 58, 82, 69, 65, 76, 58, 50, 58, 49],
  Str.mk #[65, 77, 65, 88, 48, 58, 65, 77, 65, 88, 48, 58, 48, 58, 49],
  Str.mk #[77, 65, 88, 49, 58, 77, 65, 88, 49, 58, 49, 58, 48],
  Str.mk #[65, 77, 73, 78, 48, 58, 65, 77, 73, 78, 48, 58, 48, 58, 49],
  Str.mk #[77, 73, 78, 49, 58, 77, 73, 78, 49, 58, 49, 58, 48],
  Str.mk #[73, 67, 72, 65, 82, 58, 73, 67, 72, 65, 82, 58, 53, 58, 48],
  Str.mk #[67, 72, 65, 82, 58, 67, 72, 65, 82, 58, 48, 58, 53],
  Str.mk #[68, 73, 78, 84, 58, 65, 73, 78, 84, 58, 50, 58, 50],
  Str.mk #[68, 78, 73, 78, 84, 58, 65, 78, 73, 78, 84, 58, 50, 58, 50],
  Str.mk #[73, 68, 78, 73, 78, 84, 58, 78, 73, 78, 84, 58, 50, 58, 48],
  Str.mk #[73, 65, 66, 83, 58, 65, 66, 83, 58, 48, 58, 48],
  Str.mk #[68, 65, 66, 83, 58, 65, 66, 83, 58, 50, 58, 50],
  Str.mk #[67, 65, 66, 83, 58, 65, 66, 83, 58, 51, 58, 49],
  Str.mk #[65, 77, 79, 68, 58, 77, 79, 68, 58, 49, 58, 49],
  Str.mk #[68, 77, 79, 68, 58, 77, 79, 68, 58, 50, 58, 50],
  Str.mk #[73, 83, 73, 71, 78, 58, 83, 73, 71, 78, 58, 48, 58, 48],
  Str.mk #[68, 83, 73, 71, 78, 58, 83, 73, 71, 78, 58, 50, 58, 50],
  Str.mk #[73, 68, 73, 77, 58, 68, 73, 77, 58, 48, 58, 48],
  Str.mk #[68, 68, 73, 77, 58, 68, 73, 77, 58, 50, 58, 50],
  Str.mk #[68, 80, 82, 79, 68, 58, 68, 80, 82, 79, 68, 58, 49, 58, 50],
  Str.mk #[77, 65, 88, 48, 58, 77, 65, 88, 58, 48, 58, 48],
  Str.mk #[65, 77, 65, 88, 49, 58, 77, 65, 88, 58, 49, 58, 49],
  Str.mk #[68, 77, 65, 88, 49, 58, 77, 65, 88, 58, 50, 58, 50],
  Str.mk #[77, 73, 78, 48, 58, 77, 73, 78, 58, 48, 58, 48],
  Str.mk #[65, 77, 73, 78, 49, 58, 77, 73, 78, 58, 49, 58, 49],
  Str.mk #[68, 77, 73, 78, 49, 58, 77, 73, 78, 58, 50, 58, 50],
  Str.mk #[76, 69, 78, 58, 76, 69, 78, 58, 53, 58, 48],
  Str.mk #[73, 78, 68, 69, 88, 58, 73, 78, 68, 69, 88, 58, 53, 58, 48],
  Str.mk #[65, 73, 77, 65, 71, 58, 65, 73, 77, 65, 71, 58, 51, 58, 49],
  Str.mk #[67, 79, 78, 74, 71, 58, 67, 79, 78, 74, 71, 58, 51, 58, 51],
  Str.mk #[68, 83, 81, 82, 84, 58, 83, 81, 82, 84, 58, 50, 58, 50],
  Str.mk #[67, 83, 81, 82, 84, 58, 83, 81, 82, 84, 58, 51, 58, 51],
  Str.mk #[68, 69, 88, 80, 58, 69, 88, 80, 58, 50, 58, 50],
  Str.mk #[67, 69, 88, 80, 58, 69, 88, 80, 58, 51, 58, 51],
  Str.mk #[65, 76, 79, 71, 58, 76, 79, 71, 58, 49, 58, 49],
  Str.mk #[68, 76, 79, 71, 58, 76, 79, 71, 58, 50, 58, 50],
  Str.mk #[67, 76, 79, 71, 58, 76, 79, 71, 58, 51, 58, 51],
  Str.mk #[65, 76, 79, 71, 49, 48, 58, 76, 79, 71, 49, 48, 58, 49, 58, 49],
  Str.mk #[68, 76, 79, 71, 49, 48, 58, 76, 79, 71, 49, 48, 58, 50, 58, 50],
  Str.mk #[68, 83, 73, 78, 58, 83, 73, 78, 58, 50, 58, 50],
  Str.mk #[67, 83, 73, 78, 58, 83, 73, 78, 58, 51, 58, 51],
  Str.mk #[68, 67, 79, 83, 58, 67, 79, 83, 58, 50, 58, 50],
  Str.mk #[67, 67, 79, 83, 58, 67, 79, 83, 58, 51, 58, 51],
  Str.mk #[68, 84, 65, 78, 58, 84, 65, 78, 58, 50, 58, 50],
  Str.mk #[68, 65, 83, 73, 78, 58, 65, 83, 73, 78, 58, 50, 58, 50],
  Str.mk #[68, 65, 67, 79, 83, 58, 65, 67, 79, 83, 58, 50, 58, 50],
  Str.mk #[68, 65, 84, 65, 78, 58, 65, 84, 65, 78, 58, 50, 58, 50],
  Str.mk #[68, 65, 84, 65, 78, 50, 58, 65, 84, 65, 78, 50, 58, 50, 58, 50],
  Str.mk #[68, 83, 73, 78, 72, 58, 83, 73, 78, 72, 58, 50, 58, 50],
  Str.mk #[68, 67, 79, 83, 72, 58, 67, 79, 83, 72, 58, 50, 58, 50],
  Str.mk #[68, 84, 65, 78, 72, 58, 84, 65, 78, 72, 58, 50, 58, 50],
  Str.mk #[76, 71, 69, 58, 76, 71, 69, 58, 53, 58, 52],
  Str.mk #[76, 71, 84, 58, 76, 71, 84, 58, 53, 58, 52],
  Str.mk #[76, 76, 69, 58, 76, 76, 69, 58, 53, 58, 52],
  Str.mk #[76, 76, 84, 58, 76, 76, 84, 58, 53, 58, 52]]
theorem split_all : Txt.split allText (Str.mk #[32]) = rowStrs := split_is (by decide +kernel)
theorem cut_rows : rowStrs.map (fun r => cut 58 r.cps.toList) = rowTab.map (fun p => (rowParts p).map (·.cps.toList)) := by decide +kernel
theorem len_rows : ∀ r ∈ rowStrs, r.length + 2 ≤ sizeLine := by decide +kernel
theorem find_rows : ∀ p ∈ rowTab, rowTab.find? (fun q => q.1 == p.1) = some p := by decide +kernel
theorem row_mem {r : Str} (h : r ∈ rowStrs) : ∃ p ∈ rowTab, Txt.split r (Str.mk #[58]) = rowParts p := by
  have k : cut 58 r.cps.toList ∈ rowStrs.map (fun r => cut 58 r.cps.toList) := List.mem_map.mpr ⟨r, h, rfl⟩
  rw [cut_rows] at k
  obtain ⟨p, hp, e⟩ := List.mem_map.mp k
  exact ⟨p, hp, split_is e.symm⟩

section
variable {prog : Program} {w : World} {A : Around} {E : Value → Shared → Prop} {s : Shared} {h₀ : Heap} {env : Env} {target : Expr} {body : List Stmt} {Q : Flow → Shared → Prop}
theorem unrEnd_mono {L : Addr} {s₁ : Shared} {its : List (Addr × Obj)} {r r' : (Str → Option Value) → List (Addr × Obj) → Prop} (h : ∀ m n, r m n → r' m n) (f : Flow) (s₂ : Shared) (H : UnrPostW h₀ L s₁ its r Q f s₂) : UnrPostW h₀ L s₁ its r' Q f s₂ := by
  cases f with
  | ret v => exact H
  | brk => exact H
  | _ =>
    obtain ⟨h', tk, m', n', a, b, c, d, e⟩ := H
    exact ⟨h', tk, m', n', a, b, c, d, h _ _ e⟩
theorem rest_rows {J : Option Value → Option Value → Str → Option Value} {hit : Str → Prop} {I : Addr} {keep news : List (Addr × Obj)} (hsub : SubL keep news) :
    ∀ (l : List (Str × Tok)) (all : List Str), (∀ r ∈ l.map (·.1), r ∈ all) → (∀ r ∈ all, r ∉ l.map (·.1) → ¬ hit r) →
    (∀ r tk op or h t, r ∈ all → Fr h₀ env.locals h (J op or) → ∀ o : Obj, o.cls = .type "list_iterator" → News h₀ env.locals h ((I, o) :: news) →
      wpAny (model prog w) A (assign target env (.str r tk)) (fun _ s₂ => wpAny (model prog w) A (execs body env) (UnrPostW h₀ env.locals { s with heap := h, toks := t } [(I, o)] (fun m' n' => ¬ hit r ∧ n' = news ∧ ∃ a b, m' = J a b) Q) E s₂) E { s with heap := h, toks := t }) →
    (∀ op or h t, (∀ r ∈ all, ¬ hit r) → Fr h₀ env.locals h (J op or) → News h₀ env.locals h news → Q .next { s with heap := h, toks := t }) →
    ∀ op or, ItemsRest prog w A E h₀ env target body Q s [(I, "list_iterator")] keep ((strValues l).map .val) (J op or) news
  | [], all, _, hno, _, fin, op, or => ItemsRest.zero fun h t F N => fin op or h t (fun r hr => hno r hr (fun x => nomatch x)) F N
  | (r, tk) :: l, all, hin, hno, turn, fin, op, or => ItemsRest.val fun h t F => AllObj.cons fun o ho => AllObj.nil fun N => by
    refine wpAny_mono (turn r tk op or h t (hin r (.head _)) F o ho N) (fun _ s₂ h₂ => wpAny_mono h₂ (fun f s₃ h₃ => unrEnd_mono (fun m' n' k => ?_) f s₃ h₃) fun _ _ e => e) fun _ _ e => e
    obtain ⟨hn, rfl, a, b, rfl⟩ := k
    exact ⟨hsub, rest_rows hsub l all (fun q hq => hin q (.tail _ hq)) (fun q hq hql => if e : q = r then e ▸ hn else hno q hq (fun hm => by
      rcases List.mem_cons.mp hm with x | x
      · exact e x
      · exact hql x)) turn fin a b⟩
end


end Mine

namespace Mine
open PySem PySem.W PyProof.Rows PySem.Calls

local macro_rules | `(tactic| walk_at "exec Raise some none") => `(tactic| (k_here; (with_reducible show wpAny _ _ (exec (Stmt.Raise (some (Expr.Call (Expr.Name ("CheckFault" : Str) _) _ _ _)) none _) _) _ _ _); refine Raise_thrown rfl ?_))
local macro_rules | `(tactic| walk_at "call ref") => `(tactic| (k_here; (with_reducible show wpAny _ _ (call (Value.ref 44) [Value.str _ _]) _ _ _); k_dflt (refine' kfault ?F ?X ?N ?h1 ?h2 ?h3 ?h5 ?_; (case F => k_asm); (case X => k_asm); (case N => k_asm); (case h1 => exact rfl); (case h3 => exact rfl); (case h2 => first | decide | (simp only [depth_under_make, depth_under_kw, depth_in1, depth_deeper, depth_caller]; (try dsimp only [ktrTop]); omega)); (case h5 => first | decide | (simp only [units_in1, units_deeper, Around.mark_units, units_caller]; (try dsimp only [ktrTop]); omega)); k_whole); intro e' ta' h' tk' fa' F' N'; (obtain ⟨dd', sl', he'⟩ := fa'.there)))
local macro_rules | `(tactic| walk_at "Thrown") => `(tactic| (refine ⟨_, _, _, _, rfl, by k_in, by kts_isx, by assumption, ?_⟩))
local macro_rules | `(tactic| walk_at "leaving ref") => `(tactic| (k_here; first
  | ((rename FaultAt _ _ _ _ _ _ => fa9); refine' leave_fault ?K fa9 ?F ?N ?_; (case K => assumption); (case F => assumption); (case N => k_asm); k_whole; intro h' S' R' U'; (try dsimp only at S' R' U' ⊢))
  | (refine' leave_onS ?k1 ?k2 ?k3 ?k4 ?_; (case k3 => assumption); (case k2 => assumption); (case k1 => assumption); (case k4 => assumption); k_whole; intro h' S' R' U'; (try dsimp only at S' R' U' ⊢))))
local macro_rules | `(tactic| walk_at "call ref") => `(tactic| (k_here; (with_reducible show wpAny _ _ (call (Value.ref 61) _) _ _ _); k_dflt (refine' kgeneric1 $(Lean.mkIdent `nm) ?F ?X ?N ?h1 ?h2 ?h3 ?h5 ?_; (case F => k_asm); (case X => k_asm); (case N => k_asm); (case h1 => exact rfl); (case h3 => exact rfl); (case h2 => first | decide | (simp only [depth_under_make, depth_under_kw, depth_in1, depth_deeper, depth_caller]; (try dsimp only [ktrTop]); omega)); (case h5 => first | decide | (simp only [units_in1, units_deeper, Around.mark_units, units_caller]; (try dsimp only [ktrTop]); omega)); all_goals intros)))
local macro_rules | `(tactic| walk_at "call ref") => `(tactic| (k_here; (with_reducible show wpAny _ _ (call (Value.ref 68) _) _ _ _); k_dflt (refine' kspecific $(Lean.mkIdent `nm) ?F ?X ?N ?h1 ?h2 ?h3 ?h5 ?_ ?_; (case F => k_asm); (case X => k_asm); (case N => k_asm); (case h1 => exact rfl); (case h3 => exact rfl); (case h2 => first | decide | (simp only [depth_under_make, depth_under_kw, depth_in1, depth_deeper, depth_caller]; (try dsimp only [ktrTop]); omega)); (case h5 => first | decide | (simp only [units_in1, units_deeper, Around.mark_units, units_caller]; (try dsimp only [ktrTop]); omega)); all_goals intros)))
local macro_rules | `(tactic| walk_at "compareOp In str ref") => `(tactic| (k_here; k_dflt (refine' in_gen ?G ?D ?s ?_ ?_; (case D => exact News.get (by k_asm) (by k_mem)); (case G => assumption); (case s => assumption); all_goals intros)))
local macro_rules | `(tactic| walk_at "compareOp In str ref") => `(tactic| (k_here; k_dflt (refine' in_has ?H ?D ?s ?_; (case D => exact News.get (by k_asm) (by k_mem)); (case H => assumption); (case s => assumption); k_whole; (try dsimp only [Option.isSome_some, Option.isSome_none]))))
local macro_rules | `(tactic| walk_at "subscriptTail") => `(tactic| (k_here; (with_reducible show wpAny _ _ (subscriptTail _ _ (Value.ref _) (Value.str _ _)) _ _ _); k_dflt (refine' item_has ?H ?D ?_; (case D => exact News.get (by k_asm) (by k_mem)); (case H => assumption); k_whole)))
local macro_rules | `(tactic| walk_at "getMethod ref") => `(tactic| (k_here; (with_reducible show wpAny _ _ (getMethod (Value.ref _) (Str.ofString "get") _) _ _ _); k_dflt (refine' getMethod_has ?H ?D ?_; (case D => exact News.get (by k_asm) (by k_mem)); (case H => assumption); k_whole)))
local macro_rules | `(tactic| walk_at "call builtin:dict.get") => `(tactic| (k_here; (with_reducible show wpAny _ _ (call (Value.builtin "dict.get") [Value.ref _, Value.str _ _]) _ _ _); k_dflt (refine' get_has ?H ?D ?s ?_; (case D => exact News.get (by k_asm) (by k_mem)); (case H => assumption); (case s => assumption); k_whole; (try dsimp only [Option.getD_some, Option.getD_none]))))


def manyT : List Str := [Str.ofString "MAX", Str.ofString "MIN", Str.ofString "AMAX0", Str.ofString "AMIN0", Str.ofString "MAX1", Str.ofString "MIN1"]
def twoT : List Str := [Str.ofString "MOD", Str.ofString "SIGN", Str.ofString "DIM", Str.ofString "DPROD", Str.ofString "ATAN2", Str.ofString "INDEX", Str.ofString "LGE", Str.ofString "LGT", Str.ofString "LLE", Str.ofString "LLT"]
def countsP (op : Str) (n : Int) : Bool := if (manyT.any fun x => x == op) = true then decide (1 < n) else if (twoT.any fun x => x == op) = true then n == 2 else n == 1 || ((op == Str.ofString "CMPLX") && n == 2)
section
variable {op : Str} {n : Int}
theorem cp1 (h : (manyT.any fun x => x == op) = true) : countsP op n = decide (1 < n) := if_pos h
theorem cp2 (h : (manyT.any fun x => x == op) = false) (k : (twoT.any fun x => x == op) = true) : countsP op n = (n == 2) := by unfold countsP; rw [h, k]; rfl
theorem cp3 (h : (manyT.any fun x => x == op) = false) (k : (twoT.any fun x => x == op) = false) : countsP op n = (n == 1 || ((op == Str.ofString "CMPLX") && n == 2)) := by unfold countsP; rw [h, k]; rfl
theorem cp4 (h : (manyT.any fun x => x == op) = false) (k : (twoT.any fun x => x == op) = false) (e : n = 1) : countsP op n = (n == 1) := by rw [cp3 h k, e]; rfl
theorem cp5 (h : (manyT.any fun x => x == op) = false) (k : (twoT.any fun x => x == op) = false) (e : n ≠ 1) (c : (op == Str.ofString "CMPLX") = true) : countsP op n = (n == 2) := by rw [cp3 h k, c, beq_eq_false_iff_ne.mpr e]; rfl
theorem cp6 (h : (manyT.any fun x => x == op) = false) (k : (twoT.any fun x => x == op) = false) (e : n ≠ 1) (c : (op == Str.ofString "CMPLX") = false) : countsP op n = (op == Str.ofString "CMPLX") := by rw [cp3 h k, c, beq_eq_false_iff_ne.mpr e]; rfl
end
theorem ct_counts {w : World} {p : Program} {loose : List Str} {mean : ExcName → Option Value} {mg mb : Str → Option Value} {op : Str} {t1 : Tok} {n : Int} {t2 : Tok} {news : List (Addr × Obj)}
  {dp un : Nat} {gd : Option (List Code)} {cn : Str} {cs : Scope} {a : Addr} {ccd : Value} {cl : List (Str × Addr)} {outer : List Env} {A₀ : Around} {base h₀ : Heap} {L : Addr} {m : Str → Option Value} {s : Shared} {Q E : Value → Shared → Prop} :
  Below A₀ base outer h₀ → Fr h₀ L s.heap m → (hd.heap_39 w.params).In h₀ → Top p loose mean mg mb h₀ → cs.kind = .function → dp < 350 → un < 100 → News h₀ L s.heap news →
  (∀ b h' tk', countsP op n = b → Fr h₀ L h' m → News h₀ L h' news → Q (.bool b) { s with heap := h', toks := tk' }) →
  wpAny (model Challenge.rw_no0227_01.row.prog w) (ktrTop dp un gd cn cs L a ccd cl outer) (call (.ref 137) [.str op t1, .int n t2]) Q E s := by
  k_fill
  intro B F X T hk hdp hun N hret
  refine wpAny_call ?_
  k_dflt cell_enter
  k_steps
  all_goals exact hret _ _ _ (by first | exact cp1 (by assumption) | exact cp2 (by assumption) (by assumption) | exact cp4 (by assumption) (by assumption) (by assumption) | exact cp5 (by assumption) (by assumption) (by assumption) (by assumption) | exact cp6 (by assumption) (by assumption) (by assumption) (by assumption)) (by assumption) (cb_drop (by assumption) (by intro p hp; repeat (first | exact hp | refine List.mem_cons_of_mem _ ?_ | refine List.mem_append_left _ ?_)))

end Mine

namespace Mine
open PySem PySem.W PyProof.Rows PySem.Calls

local macro_rules | `(tactic| walk_at "exec Raise some none") => `(tactic| (k_here; (with_reducible show wpAny _ _ (exec (Stmt.Raise (some (Expr.Call (Expr.Name ("CheckFault" : Str) _) _ _ _)) none _) _) _ _ _); refine Raise_thrown rfl ?_))
local macro_rules | `(tactic| walk_at "call ref") => `(tactic| (k_here; (with_reducible show wpAny _ _ (call (Value.ref 44) [Value.str _ _]) _ _ _); k_dflt (refine' kfault ?F ?X ?N ?h1 ?h2 ?h3 ?h5 ?_; (case F => k_asm); (case X => k_asm); (case N => k_asm); (case h1 => exact rfl); (case h3 => exact rfl); (case h2 => first | decide | (simp only [depth_under_make, depth_under_kw, depth_in1, depth_deeper, depth_caller]; (try dsimp only [ktrTop]); omega)); (case h5 => first | decide | (simp only [units_in1, units_deeper, Around.mark_units, units_caller]; (try dsimp only [ktrTop]); omega)); k_whole); intro e' ta' h' tk' fa' F' N'; (obtain ⟨dd', sl', he'⟩ := fa'.there)))
local macro_rules | `(tactic| walk_at "Thrown") => `(tactic| (refine ⟨_, _, _, _, rfl, by k_in, by kts_isx, by assumption, ?_⟩))
local macro_rules | `(tactic| walk_at "leaving ref") => `(tactic| (k_here; first
  | ((rename FaultAt _ _ _ _ _ _ => fa9); refine' leave_fault ?K fa9 ?F ?N ?_; (case K => assumption); (case F => assumption); (case N => k_asm); k_whole; intro h' S' R' U'; (try dsimp only at S' R' U' ⊢))
  | (refine' leave_onS ?k1 ?k2 ?k3 ?k4 ?_; (case k3 => assumption); (case k2 => assumption); (case k1 => assumption); (case k4 => assumption); k_whole; intro h' S' R' U'; (try dsimp only at S' R' U' ⊢))))
local macro_rules | `(tactic| walk_at "call ref") => `(tactic| (k_here; (with_reducible show wpAny _ _ (call (Value.ref 61) _) _ _ _); k_dflt (refine' kgeneric1 $(Lean.mkIdent `nm) ?F ?X ?N ?h1 ?h2 ?h3 ?h5 ?_; (case F => k_asm); (case X => k_asm); (case N => k_asm); (case h1 => exact rfl); (case h3 => exact rfl); (case h2 => first | decide | (simp only [depth_under_make, depth_under_kw, depth_in1, depth_deeper, depth_caller]; (try dsimp only [ktrTop]); omega)); (case h5 => first | decide | (simp only [units_in1, units_deeper, Around.mark_units, units_caller]; (try dsimp only [ktrTop]); omega)); all_goals intros)))
local macro_rules | `(tactic| walk_at "call ref") => `(tactic| (k_here; (with_reducible show wpAny _ _ (call (Value.ref 68) _) _ _ _); k_dflt (refine' kspecific $(Lean.mkIdent `nm) ?F ?X ?N ?h1 ?h2 ?h3 ?h5 ?_ ?_; (case F => k_asm); (case X => k_asm); (case N => k_asm); (case h1 => exact rfl); (case h3 => exact rfl); (case h2 => first | decide | (simp only [depth_under_make, depth_under_kw, depth_in1, depth_deeper, depth_caller]; (try dsimp only [ktrTop]); omega)); (case h5 => first | decide | (simp only [units_in1, units_deeper, Around.mark_units, units_caller]; (try dsimp only [ktrTop]); omega)); all_goals intros)))
local macro_rules | `(tactic| walk_at "compareOp In str ref") => `(tactic| (k_here; k_dflt (refine' in_gen ?G ?D ?s ?_ ?_; (case D => exact News.get (by k_asm) (by k_mem)); (case G => assumption); (case s => assumption); all_goals intros)))
local macro_rules | `(tactic| walk_at "compareOp In str ref") => `(tactic| (k_here; k_dflt (refine' in_has ?H ?D ?s ?_; (case D => exact News.get (by k_asm) (by k_mem)); (case H => assumption); (case s => assumption); k_whole; (try dsimp only [Option.isSome_some, Option.isSome_none]))))
local macro_rules | `(tactic| walk_at "subscriptTail") => `(tactic| (k_here; (with_reducible show wpAny _ _ (subscriptTail _ _ (Value.ref _) (Value.str _ _)) _ _ _); k_dflt (refine' item_has ?H ?D ?_; (case D => exact News.get (by k_asm) (by k_mem)); (case H => assumption); k_whole)))
local macro_rules | `(tactic| walk_at "getMethod ref") => `(tactic| (k_here; (with_reducible show wpAny _ _ (getMethod (Value.ref _) (Str.ofString "get") _) _ _ _); k_dflt (refine' getMethod_has ?H ?D ?_; (case D => exact News.get (by k_asm) (by k_mem)); (case H => assumption); k_whole)))
local macro_rules | `(tactic| walk_at "call builtin:dict.get") => `(tactic| (k_here; (with_reducible show wpAny _ _ (call (Value.builtin "dict.get") [Value.ref _, Value.str _ _]) _ _ _); k_dflt (refine' get_has ?H ?D ?s ?_; (case D => exact News.get (by k_asm) (by k_mem)); (case H => assumption); (case s => assumption); k_whole; (try dsimp only [Option.getD_some, Option.getD_none]))))

theorem gp0 : (Str.ofString "INT:0123:0 REAL:0123:1 DBLE:0123:2 CMPLX:0123:3 AINT:12:= ANINT:12:= NINT:12:0 ABS:0123:= MOD:012:= SIGN:012:= ").cps.toList = [73, 78, 84, 58, 48, 49, 50, 51, 58, 48, 32, 82, 69, 65, 76, 58, 48, 49, 50, 51, 58, 49, 32, 68, 66, 76, 69, 58, 48, 49, 50, 51, 58, 50, 32, 67, 77, 80, 76, 88, 58, 48, 49, 50, 51, 58, 51, 32, 65, 73, 78, 84, 58, 49, 50, 58, 61, 32, 65, 78, 73, 78, 84, 58, 49, 50, 58, 61, 32, 78, 73, 78, 84, 58, 49, 50, 58, 48, 32, 65, 66, 83, 58, 48, 49, 50, 51, 58, 61, 32, 77, 79, 68, 58, 48, 49, 50, 58, 61, 32, 83, 73, 71, 78, 58, 48, 49, 50, 58, 61, 32] := by decide +kernel
theorem gp1 : (Str.ofString "DIM:012:= MAX:012:= MIN:012:= SQRT:123:= EXP:123:= LOG:123:= LOG10:12:= SIN:123:= COS:123:= TAN:12:= ASIN:12:= ").cps.toList = [68, 73, 77, 58, 48, 49, 50, 58, 61, 32, 77, 65, 88, 58, 48, 49, 50, 58, 61, 32, 77, 73, 78, 58, 48, 49, 50, 58, 61, 32, 83, 81, 82, 84, 58, 49, 50, 51, 58, 61, 32, 69, 88, 80, 58, 49, 50, 51, 58, 61, 32, 76, 79, 71, 58, 49, 50, 51, 58, 61, 32, 76, 79, 71, 49, 48, 58, 49, 50, 58, 61, 32, 83, 73, 78, 58, 49, 50, 51, 58, 61, 32, 67, 79, 83, 58, 49, 50, 51, 58, 61, 32, 84, 65, 78, 58, 49, 50, 58, 61, 32, 65, 83, 73, 78, 58, 49, 50, 58, 61, 32] := by decide +kernel
theorem gp2 : (Str.ofString "ACOS:12:= ATAN:12:= ATAN2:12:= SINH:12:= COSH:12:= TANH:12:=").cps.toList = [65, 67, 79, 83, 58, 49, 50, 58, 61, 32, 65, 84, 65, 78, 58, 49, 50, 58, 61, 32, 65, 84, 65, 78, 50, 58, 49, 50, 58, 61, 32, 83, 73, 78, 72, 58, 49, 50, 58, 61, 32, 67, 79, 83, 72, 58, 49, 50, 58, 61, 32, 84, 65, 78, 72, 58, 49, 50, 58, 61] := by decide +kernel
theorem sp0 : (Str.ofString "IFIX:INT:1:0 IDINT:INT:2:0 FLOAT:REAL:0:1 SNGL:REAL:2:1 AMAX0:AMAX0:0:1 MAX1:MAX1:1:0 AMIN0:AMIN0:0:1 ").cps.toList = [73, 70, 73, 88, 58, 73, 78, 84, 58, 49, 58, 48, 32, 73, 68, 73, 78, 84, 58, 73, 78, 84, 58, 50, 58, 48, 32, 70, 76, 79, 65, 84, 58, 82, 69, 65, 76, 58, 48, 58, 49, 32, 83, 78, 71, 76, 58, 82, 69, 65, 76, 58, 50, 58, 49, 32, 65, 77, 65, 88, 48, 58, 65, 77, 65, 88, 48, 58, 48, 58, 49, 32, 77, 65, 88, 49, 58, 77, 65, 88, 49, 58, 49, 58, 48, 32, 65, 77, 73, 78, 48, 58, 65, 77, 73, 78, 48, 58, 48, 58, 49, 32] := by decide +kernel
theorem sp1 : (Str.ofString "MIN1:MIN1:1:0 ICHAR:ICHAR:5:0 CHAR:CHAR:0:5 DINT:AINT:2:2 DNINT:ANINT:2:2 IDNINT:NINT:2:0 IABS:ABS:0:0 DABS:ABS:2:2 ").cps.toList = [77, 73, 78, 49, 58, 77, 73, 78, 49, 58, 49, 58, 48, 32, 73, 67, 72, 65, 82, 58, 73, 67, 72, 65, 82, 58, 53, 58, 48, 32, 67, 72, 65, 82, 58, 67, 72, 65, 82, 58, 48, 58, 53, 32, 68, 73, 78, 84, 58, 65, 73, 78, 84, 58, 50, 58, 50, 32, 68, 78, 73, 78, 84, 58, 65, 78, 73, 78, 84, 58, 50, 58, 50, 32, 73, 68, 78, 73, 78, 84, 58, 78, 73, 78, 84, 58, 50, 58, 48, 32, 73, 65, 66, 83, 58, 65, 66, 83, 58, 48, 58, 48, 32, 68, 65, 66, 83, 58, 65, 66, 83, 58, 50, 58, 50, 32] := by decide +kernel
theorem sp2 : (Str.ofString "CABS:ABS:3:1 AMOD:MOD:1:1 DMOD:MOD:2:2 ISIGN:SIGN:0:0 DSIGN:SIGN:2:2 IDIM:DIM:0:0 DDIM:DIM:2:2 DPROD:DPROD:1:2 ").cps.toList = [67, 65, 66, 83, 58, 65, 66, 83, 58, 51, 58, 49, 32, 65, 77, 79, 68, 58, 77, 79, 68, 58, 49, 58, 49, 32, 68, 77, 79, 68, 58, 77, 79, 68, 58, 50, 58, 50, 32, 73, 83, 73, 71, 78, 58, 83, 73, 71, 78, 58, 48, 58, 48, 32, 68, 83, 73, 71, 78, 58, 83, 73, 71, 78, 58, 50, 58, 50, 32, 73, 68, 73, 77, 58, 68, 73, 77, 58, 48, 58, 48, 32, 68, 68, 73, 77, 58, 68, 73, 77, 58, 50, 58, 50, 32, 68, 80, 82, 79, 68, 58, 68, 80, 82, 79, 68, 58, 49, 58, 50, 32] := by decide +kernel
theorem sp3 : (Str.ofString "MAX0:MAX:0:0 AMAX1:MAX:1:1 DMAX1:MAX:2:2 MIN0:MIN:0:0 AMIN1:MIN:1:1 DMIN1:MIN:2:2 LEN:LEN:5:0 INDEX:INDEX:5:0 ").cps.toList = [77, 65, 88, 48, 58, 77, 65, 88, 58, 48, 58, 48, 32, 65, 77, 65, 88, 49, 58, 77, 65, 88, 58, 49, 58, 49, 32, 68, 77, 65, 88, 49, 58, 77, 65, 88, 58, 50, 58, 50, 32, 77, 73, 78, 48, 58, 77, 73, 78, 58, 48, 58, 48, 32, 65, 77, 73, 78, 49, 58, 77, 73, 78, 58, 49, 58, 49, 32, 68, 77, 73, 78, 49, 58, 77, 73, 78, 58, 50, 58, 50, 32, 76, 69, 78, 58, 76, 69, 78, 58, 53, 58, 48, 32, 73, 78, 68, 69, 88, 58, 73, 78, 68, 69, 88, 58, 53, 58, 48, 32] := by decide +kernel
theorem sp4 : (Str.ofString "AIMAG:AIMAG:3:1 CONJG:CONJG:3:3 DSQRT:SQRT:2:2 CSQRT:SQRT:3:3 DEXP:EXP:2:2 CEXP:EXP:3:3 ALOG:LOG:1:1 DLOG:LOG:2:2 ").cps.toList = [65, 73, 77, 65, 71, 58, 65, 73, 77, 65, 71, 58, 51, 58, 49, 32, 67, 79, 78, 74, 71, 58, 67, 79, 78, 74, 71, 58, 51, 58, 51, 32, 68, 83, 81, 82, 84, 58, 83, 81, 82, 84, 58, 50, 58, 50, 32, 67, 83, 81, 82, 84, 58, 83, 81, 82, 84, 58, 51, 58, 51, 32, 68, 69, 88, 80, 58, 69, 88, 80, 58, 50, 58, 50, 32, 67, 69, 88, 80, 58, 69, 88, 80, 58, 51, 58, 51, 32, 65, 76, 79, 71, 58, 76, 79, 71, 58, 49, 58, 49, 32, 68, 76, 79, 71, 58, 76, 79, 71, 58, 50, 58, 50, 32] := by decide +kernel
theorem sp5 : (Str.ofString "CLOG:LOG:3:3 ALOG10:LOG10:1:1 DLOG10:LOG10:2:2 DSIN:SIN:2:2 CSIN:SIN:3:3 DCOS:COS:2:2 CCOS:COS:3:3 DTAN:TAN:2:2 ").cps.toList = [67, 76, 79, 71, 58, 76, 79, 71, 58, 51, 58, 51, 32, 65, 76, 79, 71, 49, 48, 58, 76, 79, 71, 49, 48, 58, 49, 58, 49, 32, 68, 76, 79, 71, 49, 48, 58, 76, 79, 71, 49, 48, 58, 50, 58, 50, 32, 68, 83, 73, 78, 58, 83, 73, 78, 58, 50, 58, 50, 32, 67, 83, 73, 78, 58, 83, 73, 78, 58, 51, 58, 51, 32, 68, 67, 79, 83, 58, 67, 79, 83, 58, 50, 58, 50, 32, 67, 67, 79, 83, 58, 67, 79, 83, 58, 51, 58, 51, 32, 68, 84, 65, 78, 58, 84, 65, 78, 58, 50, 58, 50, 32] := by decide +kernel
theorem sp6 : (Str.ofString "DASIN:ASIN:2:2 DACOS:ACOS:2:2 DATAN:ATAN:2:2 DATAN2:ATAN2:2:2 DSINH:SINH:2:2 DCOSH:COSH:2:2 DTANH:TANH:2:2 ").cps.toList = [68, 65, 83, 73, 78, 58, 65, 83, 73, 78, 58, 50, 58, 50, 32, 68, 65, 67, 79, 83, 58, 65, 67, 79, 83, 58, 50, 58, 50, 32, 68, 65, 84, 65, 78, 58, 65, 84, 65, 78, 58, 50, 58, 50, 32, 68, 65, 84, 65, 78, 50, 58, 65, 84, 65, 78, 50, 58, 50, 58, 50, 32, 68, 83, 73, 78, 72, 58, 83, 73, 78, 72, 58, 50, 58, 50, 32, 68, 67, 79, 83, 72, 58, 67, 79, 83, 72, 58, 50, 58, 50, 32, 68, 84, 65, 78, 72, 58, 84, 65, 78, 72, 58, 50, 58, 50, 32] := by decide +kernel
theorem sp7 : (Str.ofString "LGE:LGE:5:4 LGT:LGT:5:4 LLE:LLE:5:4 LLT:LLT:5:4").cps.toList = [76, 71, 69, 58, 76, 71, 69, 58, 53, 58, 52, 32, 76, 71, 84, 58, 76, 71, 84, 58, 53, 58, 52, 32, 76, 76, 69, 58, 76, 76, 69, 58, 53, 58, 52, 32, 76, 76, 84, 58, 76, 76, 84, 58, 53, 58, 52] := by decide +kernel
theorem str_list {x y : Str} (h : x.cps.toList = y.cps.toList) : x = y := by cases x; cases y; exact congrArg Str.mk (Array.toList_inj.mp h)
theorem gtext_eq : Str.ofString "INT:0123:0 REAL:0123:1 DBLE:0123:2 CMPLX:0123:3 AINT:12:= ANINT:12:= NINT:12:0 ABS:0123:= MOD:012:= SIGN:012:= " ++ Str.ofString "DIM:012:= MAX:012:= MIN:012:= SQRT:123:= EXP:123:= LOG:123:= LOG10:12:= SIN:123:= COS:123:= TAN:12:= ASIN:12:= " ++ Str.ofString "ACOS:12:= ATAN:12:= ATAN2:12:= SINH:12:= COSH:12:= TANH:12:=" = genText := str_list (by simp only [Str.cps_append, Array.toList_append, gp0, gp1, gp2]; rfl)
theorem stext_eq : Str.ofString "IFIX:INT:1:0 IDINT:INT:2:0 FLOAT:REAL:0:1 SNGL:REAL:2:1 AMAX0:AMAX0:0:1 MAX1:MAX1:1:0 AMIN0:AMIN0:0:1 " ++ Str.ofString "MIN1:MIN1:1:0 ICHAR:ICHAR:5:0 CHAR:CHAR:0:5 DINT:AINT:2:2 DNINT:ANINT:2:2 IDNINT:NINT:2:0 IABS:ABS:0:0 DABS:ABS:2:2 " ++ Str.ofString "CABS:ABS:3:1 AMOD:MOD:1:1 DMOD:MOD:2:2 ISIGN:SIGN:0:0 DSIGN:SIGN:2:2 IDIM:DIM:0:0 DDIM:DIM:2:2 DPROD:DPROD:1:2 " ++ Str.ofString "MAX0:MAX:0:0 AMAX1:MAX:1:1 DMAX1:MAX:2:2 MIN0:MIN:0:0 AMIN1:MIN:1:1 DMIN1:MIN:2:2 LEN:LEN:5:0 INDEX:INDEX:5:0 " ++ Str.ofString "AIMAG:AIMAG:3:1 CONJG:CONJG:3:3 DSQRT:SQRT:2:2 CSQRT:SQRT:3:3 DEXP:EXP:2:2 CEXP:EXP:3:3 ALOG:LOG:1:1 DLOG:LOG:2:2 " ++ Str.ofString "CLOG:LOG:3:3 ALOG10:LOG10:1:1 DLOG10:LOG10:2:2 DSIN:SIN:2:2 CSIN:SIN:3:3 DCOS:COS:2:2 CCOS:COS:3:3 DTAN:TAN:2:2 " ++ Str.ofString "DASIN:ASIN:2:2 DACOS:ACOS:2:2 DATAN:ATAN:2:2 DATAN2:ATAN2:2:2 DSINH:SINH:2:2 DCOSH:COSH:2:2 DTANH:TANH:2:2 " ++ Str.ofString "LGE:LGE:5:4 LGT:LGT:5:4 LLE:LLE:5:4 LLT:LLT:5:4" = specText := str_list (by simp only [Str.cps_append, Array.toList_append, sp0, sp1, sp2, sp3, sp4, sp5, sp6, sp7]; rfl)
theorem atext_eq : genText ++ Str.ofString " " ++ specText = allText := str_list (by simp only [Str.cps_append, Array.toList_append]; rfl)

theorem ct_gtext {w : World} {p : Program} {loose : List Str} {mean : ExcName → Option Value} {mg mb : Str → Option Value} {news : List (Addr × Obj)}
  {dp un : Nat} {gd : Option (List Code)} {cn : Str} {cs : Scope} {a : Addr} {ccd : Value} {cl : List (Str × Addr)} {outer : List Env} {A₀ : Around} {base h₀ : Heap} {L : Addr} {m : Str → Option Value} {s : Shared} {Q E : Value → Shared → Prop} :
  Below A₀ base outer h₀ → Fr h₀ L s.heap m → (hd.heap_39 w.params).In h₀ → Top p loose mean mg mb h₀ → cs.kind = .function → dp < 350 → un < 100 → News h₀ L s.heap news →
  (∀ t h' tk', Fr h₀ L h' m → News h₀ L h' news → Q (.str genText t) { s with heap := h', toks := tk' }) →
  wpAny (model Challenge.rw_no0227_01.row.prog w) (ktrTop dp un gd cn cs L a ccd cl outer) (call (.ref 115) []) Q E s := by
  k_fill
  intro B F X T hk hdp hun N hret
  refine wpAny_call ?_
  k_dflt cell_enter
  k_steps
  all_goals
    have e : ∀ x t sh, x = genText → Q (.str genText t) sh → Q (.str x t) sh := fun x t sh e h => e ▸ h
    exact e _ _ _ gtext_eq (hret _ _ _ (by assumption) (by assumption))


theorem ct_stext {w : World} {p : Program} {loose : List Str} {mean : ExcName → Option Value} {mg mb : Str → Option Value} {news : List (Addr × Obj)}
  {dp un : Nat} {gd : Option (List Code)} {cn : Str} {cs : Scope} {a : Addr} {ccd : Value} {cl : List (Str × Addr)} {outer : List Env} {A₀ : Around} {base h₀ : Heap} {L : Addr} {m : Str → Option Value} {s : Shared} {Q E : Value → Shared → Prop} :
  Below A₀ base outer h₀ → Fr h₀ L s.heap m → (hd.heap_39 w.params).In h₀ → Top p loose mean mg mb h₀ → cs.kind = .function → dp < 350 → un < 100 → News h₀ L s.heap news →
  (∀ t h' tk', Fr h₀ L h' m → News h₀ L h' news → Q (.str specText t) { s with heap := h', toks := tk' }) →
  wpAny (model Challenge.rw_no0227_01.row.prog w) (ktrTop dp un gd cn cs L a ccd cl outer) (call (.ref 122) []) Q E s := by
  k_fill
  intro B F X T hk hdp hun N hret
  refine wpAny_call ?_
  k_dflt cell_enter
  k_steps
  all_goals
    have e : ∀ x t sh, x = specText → Q (.str specText t) sh → Q (.str x t) sh := fun x t sh e h => e ▸ h
    exact e _ _ _ stext_eq (hret _ _ _ (by assumption) (by assumption))


end Mine

namespace Mine
open PySem PySem.W PyProof.Rows PySem.Calls

local macro_rules | `(tactic| walk_at "exec Raise some none") => `(tactic| (k_here; (with_reducible show wpAny _ _ (exec (Stmt.Raise (some (Expr.Call (Expr.Name ("CheckFault" : Str) _) _ _ _)) none _) _) _ _ _); refine Raise_thrown rfl ?_))
local macro_rules | `(tactic| walk_at "call ref") => `(tactic| (k_here; (with_reducible show wpAny _ _ (call (Value.ref 44) [Value.str _ _]) _ _ _); k_dflt (refine' kfault ?F ?X ?N ?h1 ?h2 ?h3 ?h5 ?_; (case F => k_asm); (case X => k_asm); (case N => k_asm); (case h1 => exact rfl); (case h3 => exact rfl); (case h2 => first | decide | (simp only [depth_under_make, depth_under_kw, depth_in1, depth_deeper, depth_caller]; (try dsimp only [ktrTop]); omega)); (case h5 => first | decide | (simp only [units_in1, units_deeper, Around.mark_units, units_caller]; (try dsimp only [ktrTop]); omega)); k_whole); intro e' ta' h' tk' fa' F' N'; (obtain ⟨dd', sl', he'⟩ := fa'.there)))
local macro_rules | `(tactic| walk_at "Thrown") => `(tactic| (refine ⟨_, _, _, _, rfl, by k_in, by kts_isx, by assumption, ?_⟩))
local macro_rules | `(tactic| walk_at "leaving ref") => `(tactic| (k_here; first
  | ((rename FaultAt _ _ _ _ _ _ => fa9); refine' leave_fault ?K fa9 ?F ?N ?_; (case K => assumption); (case F => assumption); (case N => k_asm); k_whole; intro h' S' R' U'; (try dsimp only at S' R' U' ⊢))
  | (refine' leave_onS ?k1 ?k2 ?k3 ?k4 ?_; (case k3 => assumption); (case k2 => assumption); (case k1 => assumption); (case k4 => assumption); k_whole; intro h' S' R' U'; (try dsimp only at S' R' U' ⊢))))
local macro_rules | `(tactic| walk_at "call ref") => `(tactic| (k_here; (with_reducible show wpAny _ _ (call (Value.ref 61) _) _ _ _); k_dflt (refine' kgeneric1 $(Lean.mkIdent `nm) ?F ?X ?N ?h1 ?h2 ?h3 ?h5 ?_; (case F => k_asm); (case X => k_asm); (case N => k_asm); (case h1 => exact rfl); (case h3 => exact rfl); (case h2 => first | decide | (simp only [depth_under_make, depth_under_kw, depth_in1, depth_deeper, depth_caller]; (try dsimp only [ktrTop]); omega)); (case h5 => first | decide | (simp only [units_in1, units_deeper, Around.mark_units, units_caller]; (try dsimp only [ktrTop]); omega)); all_goals intros)))
local macro_rules | `(tactic| walk_at "call ref") => `(tactic| (k_here; (with_reducible show wpAny _ _ (call (Value.ref 68) _) _ _ _); k_dflt (refine' kspecific $(Lean.mkIdent `nm) ?F ?X ?N ?h1 ?h2 ?h3 ?h5 ?_ ?_; (case F => k_asm); (case X => k_asm); (case N => k_asm); (case h1 => exact rfl); (case h3 => exact rfl); (case h2 => first | decide | (simp only [depth_under_make, depth_under_kw, depth_in1, depth_deeper, depth_caller]; (try dsimp only [ktrTop]); omega)); (case h5 => first | decide | (simp only [units_in1, units_deeper, Around.mark_units, units_caller]; (try dsimp only [ktrTop]); omega)); all_goals intros)))
local macro_rules | `(tactic| walk_at "compareOp In str ref") => `(tactic| (k_here; k_dflt (refine' in_gen ?G ?D ?s ?_ ?_; (case D => exact News.get (by k_asm) (by k_mem)); (case G => assumption); (case s => assumption); all_goals intros)))
local macro_rules | `(tactic| walk_at "compareOp In str ref") => `(tactic| (k_here; k_dflt (refine' in_has ?H ?D ?s ?_; (case D => exact News.get (by k_asm) (by k_mem)); (case H => assumption); (case s => assumption); k_whole; (try dsimp only [Option.isSome_some, Option.isSome_none]))))
local macro_rules | `(tactic| walk_at "subscriptTail") => `(tactic| (k_here; (with_reducible show wpAny _ _ (subscriptTail _ _ (Value.ref _) (Value.str _ _)) _ _ _); k_dflt (refine' item_has ?H ?D ?_; (case D => exact News.get (by k_asm) (by k_mem)); (case H => assumption); k_whole)))
local macro_rules | `(tactic| walk_at "getMethod ref") => `(tactic| (k_here; (with_reducible show wpAny _ _ (getMethod (Value.ref _) (Str.ofString "get") _) _ _ _); k_dflt (refine' getMethod_has ?H ?D ?_; (case D => exact News.get (by k_asm) (by k_mem)); (case H => assumption); k_whole)))
local macro_rules | `(tactic| walk_at "call builtin:dict.get") => `(tactic| (k_here; (with_reducible show wpAny _ _ (call (Value.builtin "dict.get") [Value.ref _, Value.str _ _]) _ _ _); k_dflt (refine' get_has ?H ?D ?s ?_; (case D => exact News.get (by k_asm) (by k_mem)); (case H => assumption); (case s => assumption); k_whole; (try dsimp only [Option.getD_some, Option.getD_none]))))

local macro_rules | `(tactic| walk_at "call ref") => `(tactic| (k_here; (with_reducible show wpAny _ _ (call (Value.ref 115) _) _ _ _); k_dflt (refine' ct_gtext ?B ?F ?X ?T ?hk ?hd ?hu ?N ?_; (case B => k_asm); (case F => k_asm); (case X => k_asm); (case N => k_asm); (case T => k_asm); (case hk => first | exact rfl | assumption); (case hd => first | omega | ((try simp only [depth_under_make, depth_under_kw, depth_in1, depth_deeper, depth_caller]); (try dsimp only [ktrTop]); omega)); (case hu => first | omega | ((try simp only [units_in1, units_deeper, Around.mark_units, units_caller]); (try dsimp only [ktrTop]); omega)); all_goals intros)))

local macro_rules | `(tactic| walk_at "call ref") => `(tactic| (k_here; (with_reducible show wpAny _ _ (call (Value.ref 122) _) _ _ _); k_dflt (refine' ct_stext ?B ?F ?X ?T ?hk ?hd ?hu ?N ?_; (case B => k_asm); (case F => k_asm); (case X => k_asm); (case N => k_asm); (case T => k_asm); (case hk => first | exact rfl | assumption); (case hd => first | omega | ((try simp only [depth_under_make, depth_under_kw, depth_in1, depth_deeper, depth_caller]); (try dsimp only [ktrTop]); omega)); (case hu => first | omega | ((try simp only [units_in1, units_deeper, Around.mark_units, units_caller]); (try dsimp only [ktrTop]); omega)); all_goals intros)))


theorem counts_pos {op : Str} {n : Int} (h : countsP op n = true) : 1 ≤ n := by
  unfold countsP at h
  split at h
  · have := of_decide_eq_true h; omega
  · split at h
    · have := eq_of_beq h; omega
    · simp only [Bool.or_eq_true, Bool.and_eq_true, beq_iff_eq] at h; omega
theorem ct_counts2 {w : World} {p : Program} {loose : List Str} {mean : ExcName → Option Value} {mg mb : Str → Option Value} {op : Str} {t1 : Tok} {n : Int} {t2 : Tok} {news : List (Addr × Obj)}
  {dp un : Nat} {gd : Option (List Code)} {cn : Str} {cs : Scope} {a : Addr} {ccd : Value} {cl : List (Str × Addr)} {outer : List Env} {A₀ : Around} {base h₀ : Heap} {L : Addr} {m : Str → Option Value} {s : Shared} {Q E : Value → Shared → Prop} :
  Below A₀ base outer h₀ → Fr h₀ L s.heap m → (hd.heap_39 w.params).In h₀ → Top p loose mean mg mb h₀ → cs.kind = .function → dp < 350 → un < 100 → News h₀ L s.heap news →
  (∀ h' tk', countsP op n = true → 1 ≤ n → Fr h₀ L h' m → News h₀ L h' news → Q (.bool true) { s with heap := h', toks := tk' }) →
  (∀ h' tk', countsP op n = false → Fr h₀ L h' m → News h₀ L h' news → Q (.bool false) { s with heap := h', toks := tk' }) →
  wpAny (model Challenge.rw_no0227_01.row.prog w) (ktrTop dp un gd cn cs L a ccd cl outer) (call (.ref 137) [.str op t1, .int n t2]) Q E s :=
  fun B F X T hk hdp hun N hT hF => ct_counts B F X T hk hdp hun N fun b h' tk' e F' N' => by
    cases b with
    | true => exact hT h' tk' e (counts_pos e) F' N'
    | false => exact hF h' tk' e F' N'

local macro_rules | `(tactic| walk_at "call ref") => `(tactic| (k_here; (with_reducible show wpAny _ _ (call (Value.ref 137) _) _ _ _); k_dflt (refine' ct_counts2 ?B ?F ?X ?T ?hk ?hd ?hu ?N ?_ ?_; (case B => k_asm); (case F => k_asm); (case X => k_asm); (case N => k_asm); (case T => k_asm); (case hk => first | exact rfl | assumption); (case hd => first | omega | ((try simp only [depth_under_make, depth_under_kw, depth_in1, depth_deeper, depth_caller]); (try dsimp only [ktrTop]); omega)); (case hu => first | omega | ((try simp only [units_in1, units_deeper, Around.mark_units, units_caller]); (try dsimp only [ktrTop]); omega)); all_goals intros)))


theorem sz1 : genText.length + (Str.ofString " ").length ≤ sizeLine := by decide +kernel
theorem sz2 : (genText ++ Str.ofString " ").length + specText.length ≤ sizeLine := by rw [Str.length_append]; decide +kernel
theorem sz3 : (genText ++ Str.ofString " " ++ specText).length + 2 ≤ sizeLine := by rw [Str.length_append, Str.length_append]; decide +kernel
theorem split_text : Txt.split (genText ++ Str.ofString " " ++ specText) (Str.ofString " ") = rowStrs := by rw [atext_eq]; exact split_all
local macro_rules | `(tactic| walk_at "exec For Name Call cons nil") => `(tactic| (k_here; (rename Fr _ _ _ _ => lF'); (with_unfolding_all refine' For_turns lF' ?_; k_whole)))
theorem add_len {x y : Str} {t u : Tok} {prog : Program} {w : World} {A : Around} {E : Value → Shared → Prop} {s : Shared} {Q : Value → Shared → Prop} (hsz : x.length + y.length ≤ sizeLine) (h : ∀ t' tk, Q (.str (x ++ y) t') { s with toks := tk }) :
    wpAny (model prog w) A (binaryOp .Add (.str x t) (.str y u)) Q E s := PyProof.Rows.add_str h hsz
local macro_rules | `(tactic| walk_at "binaryOp Add str str") => `(tactic| (k_here; (with_reducible show wpAny _ _ (binaryOp Operator.Add (Value.str _ _) (Value.str _ _)) _ _ _); k_dflt (refine' add_len ?a ?_; (case a => first | exact sz1 | exact sz2)); intro _ _))
local macro_rules | `(tactic| walk_at "call builtin:str.split") => `(tactic| (k_here; (with_reducible show wpAny _ _ (call (Value.builtin "str.split") [Value.str (_ ++ _ ++ _) _, Value.str _ _]) _ _ _); k_dflt (refine' KSpl.split1 ?a ?b ?c ?_ ?d; (case a => k_asm); (case b => k_asm); (case c => decide); (case d => exact sz3)); intro D' l' h' k' e' a' F' N' l1; (try k_lt l1); replace e' := e'.trans split_text))


def intOf (x : Str) : Int := (PySem.intText? x).getD 0
theorem int_rows : ∀ p ∈ rowTab, p.2.2.2.length ≤ 640 ∧ ((p.2.2.2 == Str.ofString "=") = false → PySem.intText? p.2.2.2 = some (intOf p.2.2.2)) := by decide +kernel
theorem log_of {ks : List Int} (h : ∀ v ∈ ks, 0 ≤ v ∧ v ≤ 5) : (ks.getD (Int.toNat 0) 0).natAbs.log2 < 1920 := by
  refine shown (N := 6) ?_ ?_ (by decide +kernel)
  · cases ks with
    | nil => decide
    | cons a l => have := h a (.head _); show -6 < a; omega
  · cases ks with
    | nil => decide
    | cons a l => have := h a (.head _); show a < 6; omega
/-- one row's answer -/
def dueRow (op lt rs nm : Str) (ks : List Int) : Option (Str × List Int × Int) :=
  if countsP op ks.length = true ∧ ks = (List.replicate (ks.length : Int).toNat [ks.getD (Int.toNat 0) 0]).flatten ∧ (Builtin.Str.occurrences lt (Str.ofString (toString (ks.getD (Int.toNat 0) 0))) 0 lt.length 1).isEmpty = false then
    if (nm == Str.ofString "CMPLX") = true then if ks = [3, 3] then none else some (nm, if ks = [3] then [3] else (List.replicate (ks.length : Int).toNat [1]).flatten, 3)
    else if (nm == Str.ofString "ABS") = true ∧ (if (rs == Str.ofString "=") = true then ks.getD (Int.toNat 0) 0 else intOf rs) = 3 then some (op, ks, 1) else some (op, ks, if (rs == Str.ofString "=") = true then ks.getD (Int.toNat 0) 0 else intOf rs)
  else none
/-- _law_due, as a plain function -/
def dueP (nm : Str) (ks : List Int) : Option (Str × List Int × Int) := match rowTab.find? (fun q => q.1 == nm) with
  | none => none
  | some p => dueRow (p.2.1.getD nm) p.2.2.1 p.2.2.2 nm ks
section
variable {n op lt rs nm : Str} {oo : Option Str} {ks : List Int}
theorem due_at (hp : (n, oo, lt, rs) ∈ rowTab) (h : (n == nm) = true) : dueP nm ks = dueRow (oo.getD nm) lt rs nm ks := by
  have e : n = nm := eq_of_beq h
  subst e
  have := find_rows _ hp
  unfold dueP; rw [this]
theorem dr_count (h : countsP op ks.length = false) : dueRow op lt rs nm ks = none := if_neg fun q => by rw [h] at q; exact absurd q.1 (by decide)
theorem dr_same (h : ¬ ks = (List.replicate (ks.length : Int).toNat [ks.getD (Int.toNat 0) 0]).flatten) : dueRow op lt rs nm ks = none := if_neg fun q => h q.2.1
theorem dr_in (h : (Builtin.Str.occurrences lt (Str.ofString (toString (ks.getD (Int.toNat 0) 0))) 0 lt.length 1).isEmpty = true) : dueRow op lt rs nm ks = none := if_neg fun q => by rw [h] at q; exact absurd q.2.2 (by decide)
theorem dr_c33 (c : countsP op ks.length = true) (e : ks = (List.replicate (ks.length : Int).toNat [ks.getD (Int.toNat 0) 0]).flatten) (i : (Builtin.Str.occurrences lt (Str.ofString (toString (ks.getD (Int.toNat 0) 0))) 0 lt.length 1).isEmpty = false) (k : (nm == Str.ofString "CMPLX") = true) (h : ks = [3, 3]) : dueRow op lt rs nm ks = none := by unfold dueRow; rw [if_pos ⟨c, e, i⟩, if_pos k, if_pos h]
theorem dr_c3 (c : countsP op ks.length = true) (e : ks = (List.replicate (ks.length : Int).toNat [ks.getD (Int.toNat 0) 0]).flatten) (i : (Builtin.Str.occurrences lt (Str.ofString (toString (ks.getD (Int.toNat 0) 0))) 0 lt.length 1).isEmpty = false) (k : (nm == Str.ofString "CMPLX") = true) (h : ¬ ks = [3, 3]) (g : ks = [3]) : dueRow op lt rs nm ks = some (nm, [3], 3) := by unfold dueRow; rw [if_pos ⟨c, e, i⟩, if_pos k, if_neg h, if_pos g]
theorem dr_cx (c : countsP op ks.length = true) (e : ks = (List.replicate (ks.length : Int).toNat [ks.getD (Int.toNat 0) 0]).flatten) (i : (Builtin.Str.occurrences lt (Str.ofString (toString (ks.getD (Int.toNat 0) 0))) 0 lt.length 1).isEmpty = false) (k : (nm == Str.ofString "CMPLX") = true) (h : ¬ ks = [3, 3]) (g : ¬ ks = [3]) : dueRow op lt rs nm ks = some (nm, (List.replicate (ks.length : Int).toNat [1]).flatten, 3) := by unfold dueRow; rw [if_pos ⟨c, e, i⟩, if_pos k, if_neg h, if_neg g]
theorem dr_1 (c : countsP op ks.length = true) (e : ks = (List.replicate (ks.length : Int).toNat [ks.getD (Int.toNat 0) 0]).flatten) (i : (Builtin.Str.occurrences lt (Str.ofString (toString (ks.getD (Int.toNat 0) 0))) 0 lt.length 1).isEmpty = false) (k : (nm == Str.ofString "CMPLX") = false) (r : (rs == Str.ofString "=") = true) (a : (nm == Str.ofString "ABS") = true) (t : ks.getD (Int.toNat 0) 0 = 3) : dueRow op lt rs nm ks = some (op, ks, 1) := by
  unfold dueRow; rw [if_pos ⟨c, e, i⟩, if_neg (by rw [k]; exact Bool.false_ne_true), if_pos r, if_pos ⟨a, t⟩]
theorem dr_2 (c : countsP op ks.length = true) (e : ks = (List.replicate (ks.length : Int).toNat [ks.getD (Int.toNat 0) 0]).flatten) (i : (Builtin.Str.occurrences lt (Str.ofString (toString (ks.getD (Int.toNat 0) 0))) 0 lt.length 1).isEmpty = false) (k : (nm == Str.ofString "CMPLX") = false) (r : (rs == Str.ofString "=") = true) (t : (nm == Str.ofString "ABS") = false ∨ ks.getD (Int.toNat 0) 0 ≠ 3) : dueRow op lt rs nm ks = some (op, ks, ks.getD (Int.toNat 0) 0) := by
  unfold dueRow; rw [if_pos ⟨c, e, i⟩, if_neg (by rw [k]; exact Bool.false_ne_true), if_pos r, if_neg fun q => t.elim (fun z => by rw [z] at q; exact absurd q.1 (by decide)) fun z => z q.2]
theorem dr_3 (c : countsP op ks.length = true) (e : ks = (List.replicate (ks.length : Int).toNat [ks.getD (Int.toNat 0) 0]).flatten) (i : (Builtin.Str.occurrences lt (Str.ofString (toString (ks.getD (Int.toNat 0) 0))) 0 lt.length 1).isEmpty = false) (k : (nm == Str.ofString "CMPLX") = false) (r : (rs == Str.ofString "=") = false) (a : (nm == Str.ofString "ABS") = true) (t : intOf rs = 3) : dueRow op lt rs nm ks = some (op, ks, 1) := by
  unfold dueRow; rw [if_pos ⟨c, e, i⟩, if_neg (by rw [k]; exact Bool.false_ne_true), if_neg (show ¬ (rs == Str.ofString "=") = true by rw [r]; exact Bool.false_ne_true), if_pos ⟨a, t⟩]
theorem dr_4 (c : countsP op ks.length = true) (e : ks = (List.replicate (ks.length : Int).toNat [ks.getD (Int.toNat 0) 0]).flatten) (i : (Builtin.Str.occurrences lt (Str.ofString (toString (ks.getD (Int.toNat 0) 0))) 0 lt.length 1).isEmpty = false) (k : (nm == Str.ofString "CMPLX") = false) (r : (rs == Str.ofString "=") = false) (t : (nm == Str.ofString "ABS") = false ∨ intOf rs ≠ 3) : dueRow op lt rs nm ks = some (op, ks, intOf rs) := by
  unfold dueRow; rw [if_pos ⟨c, e, i⟩, if_neg (by rw [k]; exact Bool.false_ne_true), if_neg (show ¬ (rs == Str.ofString "=") = true by rw [r]; exact Bool.false_ne_true), if_neg fun q => t.elim (fun z => by rw [z] at q; exact absurd q.1 (by decide)) fun z => z q.2]
end
/-- the frame's map between two turns -/
def rowMap (m0 : Str → Option Value) (a b : Option Value) : Str → Option Value := fun y => if y = Str.ofString "parts" then a else if y = Str.ofString "row" then b else m0 y
def hitRow (nm r : Str) : Prop := (Txt.split r (Str.ofString ":")).headD Str.empty = nm
theorem rowMap_self (m0 : Str → Option Value) : rowMap m0 (m0 (Str.ofString "parts")) (m0 (Str.ofString "row")) = m0 := by
  funext y; unfold rowMap; split
  · rename_i e; rw [e]
  · split
    · rename_i e; rw [e]
    · rfl
theorem parts_head (p : Str × Option Str × Str × Str) : (rowParts p).headD Str.empty = p.1 := by
  obtain ⟨n, oo, lt, rs⟩ := p
  cases oo <;> rfl
theorem due_none {nm : Str} {ks : List Int} (h : ∀ r ∈ rowStrs, ¬ hitRow nm r) : dueP nm ks = none := by
  have k : rowTab.find? (fun q => q.1 == nm) = none := by
    rw [List.find?_eq_none]
    intro p hp e
    have hm : (rowParts p).map (·.cps.toList) ∈ rowTab.map (fun p => (rowParts p).map (·.cps.toList)) := List.mem_map.mpr ⟨p, hp, rfl⟩
    rw [← cut_rows] at hm
    obtain ⟨r, hr, e2⟩ := List.mem_map.mp hm
    refine h r hr ?_
    unfold hitRow
    rw [show Txt.split r (Str.ofString ":") = rowParts p from split_is e2, parts_head]
    exact eq_of_beq e
  unfold dueP; rw [k]
section
variable {prog : Program} {w : World} {A : Around} {E : Value → Shared → Prop} {s : Shared} {h₀ : Heap} {env : Env} {target : Expr} {body : List Stmt} {Q : Flow → Shared → Prop}
theorem two_map {a b : Str} {va vb : Value} (h : (a == b) = false) : (fun y => List.lookup y [(a, va), (b, vb)]) = fun y => if y = b then some vb else if y = a then some va else none := by
  funext y
  by_cases e1 : y = a
  · subst e1
    rw [if_neg (beq_eq_false_iff_ne.mp h), if_pos rfl]; simp [List.lookup]
  · have n1 : (y == a) = false := beq_eq_false_iff_ne.mpr e1
    by_cases e2 : y = b
    · subst e2
      rw [if_pos rfl]; simp [List.lookup, n1]
    · have n2 : (y == b) = false := beq_eq_false_iff_ne.mpr e2
      rw [if_neg e2, if_neg e1]; simp [List.lookup, n1, n2]
theorem rowMap_step {m0 : Str → Option Value} {op or : Option Value} {v1 v2 : Value} : (fun y => if y = Str.ofString "parts" then some v1 else if y = Str.ofString "row" then some v2 else rowMap m0 op or y) = rowMap m0 (some v1) (some v2) := by
  funext y; unfold rowMap; split
  · rfl
  · split
    · rfl
    · rfl
theorem no_hit {nm r n : Str} {l : List Str} (hsp : Txt.split r (Str.ofString ":") = n :: l) (h : (n == nm) = false) : ¬ hitRow nm r := by
  unfold hitRow; rw [hsp]; exact beq_eq_false_iff_ne.mp h
theorem unr_back {L I : Addr} {o : Obj} {x : Addr × Obj} {news : List (Addr × Obj)} {s₁ : Shared} {nm r : Str} {m0 : Str → Option Value} {op or : Option Value} {v1 v2 : Value} {h' : Heap} {tk : Nat} (hn : ¬ hitRow nm r) (hI : ∀ p ∈ x :: news, p.1 < I)
    (F : Fr h₀ L h' (fun y => if y = Str.ofString "parts" then some v1 else if y = Str.ofString "row" then some v2 else rowMap m0 op or y)) (N : News h₀ L h' ((I, o) :: x :: news)) :
    UnrEndW h₀ L s₁ [(I, o)] (fun m' n' => ¬ hitRow nm r ∧ n' = x :: news ∧ ∃ a b, m' = rowMap m0 a b) { s₁ with heap := h', toks := tk } :=
  ⟨h', tk, _, x :: news, rfl, F, N, fun p hp q hq e => by
    rw [List.mem_singleton.mp hq] at e
    have := hI p hp
    rw [e] at this
    exact absurd this (Nat.lt_irrefl _), hn, rfl, _, _, rowMap_step⟩
theorem due_rest {nm : Str} {I D : Addr} {od : Obj} {news : List (Addr × Obj)} {l : List (Str × Tok)} {m0 m1 : Str → Option Value} (hm : m1 = m0) (hl : l.map (·.1) = rowStrs)
    (turn : ∀ r tk op or h t, r ∈ rowStrs → Fr h₀ env.locals h (rowMap m0 op or) → ∀ o : Obj, o.cls = .type "list_iterator" → News h₀ env.locals h ((I, o) :: (D, od) :: news) →
      wpAny (model prog w) A (assign target env (.str r tk)) (fun _ s₂ => wpAny (model prog w) A (execs body env) (UnrPostW h₀ env.locals { s with heap := h, toks := t } [(I, o)] (fun m' n' => ¬ hitRow nm r ∧ n' = (D, od) :: news ∧ ∃ a b, m' = rowMap m0 a b) Q) E s₂) E { s with heap := h, toks := t })
    (fin : ∀ op or h t, (∀ r ∈ rowStrs, ¬ hitRow nm r) → Fr h₀ env.locals h (rowMap m0 op or) → News h₀ env.locals h ((D, od) :: news) → Q .next { s with heap := h, toks := t }) :
    ItemsRest prog w A E h₀ env target body Q s [(I, "list_iterator")] [(D, od)] ((strValues l).map .val) m1 ((D, od) :: news) := by
  rw [hm]
  have := rest_rows (prog := prog) (w := w) (A := A) (E := E) (s := s) (h₀ := h₀) (env := env) (target := target) (body := body) (Q := Q) (J := rowMap m0) (hit := hitRow nm) (I := I) (keep := [(D, od)]) (news := (D, od) :: news) (by k_subL) l rowStrs (fun r hr => hl ▸ hr) (fun r hr hn => absurd (hl ▸ hr) hn) turn fin (m0 (Str.ofString "parts")) (m0 (Str.ofString "row"))
  rw [rowMap_self] at this
  exact this
end


local macro_rules | `(tactic| walk_at "call builtin:str.split") => `(tactic| (k_here; (with_reducible show wpAny _ _ (call (Value.builtin "str.split") [Value.str $(Lean.mkIdent `r) _, Value.str _ _]) _ _ _); k_dflt (refine' KSpl.split1 ?a ?b ?c ?_ ?d; (case a => k_asm); (case b => k_asm); (case c => decide); (case d => assumption)); intro D' l' h' k' e' a' F' N' l1; (try k_lt l1); replace e' := e'.trans $(Lean.mkIdent `hsp); kspl_open e'; (simp only [strValues, List.map_cons, List.map_nil] at N' a')))
local macro_rules | `(tactic| walk_at "call type:str") => `(tactic| (k_here; (with_reducible show wpAny _ _ (call (Value.type "str") [Value.int _ _]) _ _ _); k_dflt (refine' P.str_of_int ?h ?_; (case h => exact $(Lean.mkIdent `hlog)))))
local macro_rules | `(tactic| walk_at "call type:int") => `(tactic| (k_here; (with_reducible show wpAny _ _ (call (Value.type "int") [Value.str _ _]) _ _ _); k_dflt (refine' KIN.call_text (n := intOf $(Lean.mkIdent `rs)) ?h ?l ?_; (case h => exact $(Lean.mkIdent `hint) (by assumption)); (case l => exact $(Lean.mkIdent `hrl)))))
theorem ct_due {w : World} {p : Program} {loose : List Str} {mean : ExcName → Option Value} {mg mb : Str → Option Value} {nm : Str} {tn : Tok} {ks : List Int} {vs : List Value} {c : Nat} {kl : Addr} {news : List (Addr × Obj)}
  {dp un : Nat} {gd : Option (List Code)} {cn : Str} {cs : Scope} {a : Addr} {ccd : Value} {cl : List (Str × Addr)} {outer : List Env} {A₀ : Around} {base h₀ : Heap} {L : Addr} {m : Str → Option Value} {s : Shared} {Q E : Value → Shared → Prop} :
  Below A₀ base outer h₀ → Fr h₀ L s.heap m → (hd.heap_39 w.params).In h₀ → Top p loose mean mg mb h₀ → cs.kind = .function → dp < 330 → un < 60 → News h₀ L s.heap ((kl, listOf vs.toArray c) :: news) → IntsAre vs ks → (ks.length : Int) ≤ 4 → (∀ v ∈ ks, 0 ≤ v ∧ v ≤ 5) →
  (∀ h' tk', dueP nm ks = none → Fr h₀ L h' m → News h₀ L h' ((kl, listOf vs.toArray c) :: news) → Q .none { s with heap := h', toks := tk' }) →
  (∀ T op t1 r t2 wl o ws w h' tk', dueP nm ks = some (op, w, r) → ListObj o ws → IntsAre ws w → Fr h₀ L h' m → News h₀ L h' ((T, tripleObj op t1 wl r t2) :: (wl, o) :: (kl, listOf vs.toArray c) :: news) → Q (.ref T) { s with heap := h', toks := tk' }) →
  wpAny (model Challenge.rw_no0227_01.row.prog w) (ktrTop dp un gd cn cs L a ccd cl outer) (call (.ref 144) [.str nm tn, .ref kl]) Q E s := by
  k_fill
  intro B F X T hk hdp hun N hi hle hks hno hyes
  have hlog := log_of hks
  have hy : ∀ T op t1 r t2 wl o ws w h' tk', dueP nm ks = some (op, w, r) → Fr h₀ L h' m → News h₀ L h' ((T, tripleObj op t1 wl r t2) :: (wl, o) :: (kl, listOf vs.toArray c) :: news) → ListObj o ws → IntsAre ws w → Q (.ref T) { s with heap := h', toks := tk' } := fun T op t1 r t2 wl o ws w h' tk' e f n lo ia => hyes T op t1 r t2 wl o ws w h' tk' e lo ia f n
  clear hyes
  refine wpAny_call ?_
  k_dflt cell_enter
  k_with "pyIter ref" => (k_dflt (refine' iter_listTurns ?a ?b ?c ?d ?e ?f ?_; (case b => k_asm); (case c => k_asm); (case d => k_mem); (case a => exact rfl); (case e => exact rfl); (case f => exact rfl)); intro I' hI')
  k_steps
  refine due_rest (nm := nm) (m0 := fun y => if y = Str.ofString "name" then some (.str nm tn) else if y = Str.ofString "kinds" then some (.ref kl) else none) (by with_unfolding_all exact two_map (a := Str.ofString "kinds") (b := Str.ofString "name") (va := .ref kl) (vb := .str nm tn) (by decide)) (by assumption) ?_ ?_
  · intro r tk op or h t hr Fr1 o ho N1
    obtain ⟨p, hp, hsp⟩ := row_mem hr
    have hlen := len_rows r hr
    obtain ⟨hrl, hint⟩ := int_rows p hp
    obtain ⟨n, oo, lt, rs⟩ := p
    dsimp only at hrl hint
    cases oo with
    | none =>
      replace hsp : Txt.split r (Str.ofString ":") = [n, lt, rs] := hsp
      k_steps
      all_goals first
        | exact unr_back (no_hit hsp (by assumption)) hI' (by assumption) (cb_drop (by assumption) (by intro p hp; repeat (first | exact hp | refine List.mem_cons_of_mem _ ?_ | refine List.mem_append_left _ ?_)))
        | exact hno _ _ ((due_at hp (by assumption)).trans (by first
            | exact dr_count (by assumption)
            | exact dr_same (by assumption)
            | exact dr_in (by assumption)
            | exact dr_c33 (by assumption) (by assumption) (by assumption) (by assumption) (by assumption))) (by assumption) (cb_drop (by assumption) (by refine List.forall_mem_cons.mpr ⟨by k_mem, fun p hp => ?_⟩; repeat (first | exact hp | refine List.mem_cons_of_mem _ ?_ | refine List.mem_append_left _ ?_)))
        | (exact hy _ _ _ _ _ _ _ _ _ _ _ ((due_at hp (by assumption)).trans (by first
             | exact dr_c3 (by assumption) (by assumption) (by assumption) (by assumption) (by assumption) (by assumption)
             | exact dr_cx (by assumption) (by assumption) (by assumption) (by assumption) (by assumption) (by assumption)
             | exact dr_1 (by assumption) (by assumption) (by assumption) (by assumption) (by assumption) (by assumption) (by assumption)
             | exact dr_3 (by assumption) (by assumption) (by assumption) (by assumption) (by assumption) (by assumption) (by assumption)
             | exact dr_2 (by assumption) (by assumption) (by assumption) (by assumption) (by assumption) (by first | exact .inl (by assumption) | exact .inr (by assumption))
             | exact dr_4 (by assumption) (by assumption) (by assumption) (by assumption) (by assumption) (by first | exact .inl (by assumption) | exact .inr (by assumption)))) (by assumption) (news_pick3 (by assumption) (by k_mem) (by k_mem) (by k_mem) (by intro p hp; repeat (first | exact hp | refine List.mem_cons_of_mem _ ?_ | refine List.mem_append_left _ ?_))) (by first | assumption | exact ⟨rfl, _, rfl⟩) (by first | assumption | exact IntsAre.cons _ _ IntsAre.nil))
    | some o1 =>
      replace hsp : Txt.split r (Str.ofString ":") = [n, o1, lt, rs] := hsp
      k_steps
      all_goals first
        | exact unr_back (no_hit hsp (by assumption)) hI' (by assumption) (cb_drop (by assumption) (by intro p hp; repeat (first | exact hp | refine List.mem_cons_of_mem _ ?_ | refine List.mem_append_left _ ?_)))
        | exact hno _ _ ((due_at hp (by assumption)).trans (by first
            | exact dr_count (by assumption)
            | exact dr_same (by assumption)
            | exact dr_in (by assumption)
            | exact dr_c33 (by assumption) (by assumption) (by assumption) (by assumption) (by assumption))) (by assumption) (cb_drop (by assumption) (by refine List.forall_mem_cons.mpr ⟨by k_mem, fun p hp => ?_⟩; repeat (first | exact hp | refine List.mem_cons_of_mem _ ?_ | refine List.mem_append_left _ ?_)))
        | (exact hy _ _ _ _ _ _ _ _ _ _ _ ((due_at hp (by assumption)).trans (by first
             | exact dr_c3 (by assumption) (by assumption) (by assumption) (by assumption) (by assumption) (by assumption)
             | exact dr_cx (by assumption) (by assumption) (by assumption) (by assumption) (by assumption) (by assumption)
             | exact dr_1 (by assumption) (by assumption) (by assumption) (by assumption) (by assumption) (by assumption) (by assumption)
             | exact dr_3 (by assumption) (by assumption) (by assumption) (by assumption) (by assumption) (by assumption) (by assumption)
             | exact dr_2 (by assumption) (by assumption) (by assumption) (by assumption) (by assumption) (by first | exact .inl (by assumption) | exact .inr (by assumption))
             | exact dr_4 (by assumption) (by assumption) (by assumption) (by assumption) (by assumption) (by first | exact .inl (by assumption) | exact .inr (by assumption)))) (by assumption) (news_pick3 (by assumption) (by k_mem) (by k_mem) (by k_mem) (by intro p hp; repeat (first | exact hp | refine List.mem_cons_of_mem _ ?_ | refine List.mem_append_left _ ?_))) (by first | assumption | exact ⟨rfl, _, rfl⟩) (by first | assumption | exact IntsAre.cons _ _ IntsAre.nil))
  · intro op or h t hn Fr1 N1
    k_steps
    all_goals exact hno _ _ (due_none hn) (by assumption) (cb_drop (by assumption) (by refine List.forall_mem_cons.mpr ⟨by k_mem, fun p hp => ?_⟩; repeat (first | exact hp | refine List.mem_cons_of_mem _ ?_ | refine List.mem_append_left _ ?_)))

end Mine

namespace Mine
open PySem PySem.W PyProof.Rows PySem.Calls

local macro_rules | `(tactic| walk_at "exec Raise some none") => `(tactic| (k_here; (with_reducible show wpAny _ _ (exec (Stmt.Raise (some (Expr.Call (Expr.Name ("CheckFault" : Str) _) _ _ _)) none _) _) _ _ _); refine Raise_thrown rfl ?_))
local macro_rules | `(tactic| walk_at "call ref") => `(tactic| (k_here; (with_reducible show wpAny _ _ (call (Value.ref 44) [Value.str _ _]) _ _ _); k_dflt (refine' kfault ?F ?X ?N ?h1 ?h2 ?h3 ?h5 ?_; (case F => k_asm); (case X => k_asm); (case N => k_asm); (case h1 => exact rfl); (case h3 => exact rfl); (case h2 => first | decide | (simp only [depth_under_make, depth_under_kw, depth_in1, depth_deeper, depth_caller]; (try dsimp only [ktrTop]); omega)); (case h5 => first | decide | (simp only [units_in1, units_deeper, Around.mark_units, units_caller]; (try dsimp only [ktrTop]); omega)); k_whole); intro e' ta' h' tk' fa' F' N'; (obtain ⟨dd', sl', he'⟩ := fa'.there)))
local macro_rules | `(tactic| walk_at "Thrown") => `(tactic| (refine ⟨_, _, _, _, rfl, by k_in, by kts_isx, by assumption, ?_⟩))
local macro_rules | `(tactic| walk_at "leaving ref") => `(tactic| (k_here; first
  | ((rename FaultAt _ _ _ _ _ _ => fa9); refine' leave_fault ?K fa9 ?F ?N ?_; (case K => assumption); (case F => assumption); (case N => k_asm); k_whole; intro h' S' R' U'; (try dsimp only at S' R' U' ⊢))
  | (refine' leave_onS ?k1 ?k2 ?k3 ?k4 ?_; (case k3 => assumption); (case k2 => assumption); (case k1 => assumption); (case k4 => assumption); k_whole; intro h' S' R' U'; (try dsimp only at S' R' U' ⊢))))
local macro_rules | `(tactic| walk_at "call ref") => `(tactic| (k_here; (with_reducible show wpAny _ _ (call (Value.ref 61) _) _ _ _); k_dflt (refine' kgeneric1 $(Lean.mkIdent `nm) ?F ?X ?N ?h1 ?h2 ?h3 ?h5 ?_; (case F => k_asm); (case X => k_asm); (case N => k_asm); (case h1 => exact rfl); (case h3 => exact rfl); (case h2 => first | decide | (simp only [depth_under_make, depth_under_kw, depth_in1, depth_deeper, depth_caller]; (try dsimp only [ktrTop]); omega)); (case h5 => first | decide | (simp only [units_in1, units_deeper, Around.mark_units, units_caller]; (try dsimp only [ktrTop]); omega)); all_goals intros)))
local macro_rules | `(tactic| walk_at "call ref") => `(tactic| (k_here; (with_reducible show wpAny _ _ (call (Value.ref 68) _) _ _ _); k_dflt (refine' kspecific $(Lean.mkIdent `nm) ?F ?X ?N ?h1 ?h2 ?h3 ?h5 ?_ ?_; (case F => k_asm); (case X => k_asm); (case N => k_asm); (case h1 => exact rfl); (case h3 => exact rfl); (case h2 => first | decide | (simp only [depth_under_make, depth_under_kw, depth_in1, depth_deeper, depth_caller]; (try dsimp only [ktrTop]); omega)); (case h5 => first | decide | (simp only [units_in1, units_deeper, Around.mark_units, units_caller]; (try dsimp only [ktrTop]); omega)); all_goals intros)))
local macro_rules | `(tactic| walk_at "compareOp In str ref") => `(tactic| (k_here; k_dflt (refine' in_gen ?G ?D ?s ?_ ?_; (case D => exact News.get (by k_asm) (by k_mem)); (case G => assumption); (case s => assumption); all_goals intros)))
local macro_rules | `(tactic| walk_at "compareOp In str ref") => `(tactic| (k_here; k_dflt (refine' in_has ?H ?D ?s ?_; (case D => exact News.get (by k_asm) (by k_mem)); (case H => assumption); (case s => assumption); k_whole; (try dsimp only [Option.isSome_some, Option.isSome_none]))))
local macro_rules | `(tactic| walk_at "subscriptTail") => `(tactic| (k_here; (with_reducible show wpAny _ _ (subscriptTail _ _ (Value.ref _) (Value.str _ _)) _ _ _); k_dflt (refine' item_has ?H ?D ?_; (case D => exact News.get (by k_asm) (by k_mem)); (case H => assumption); k_whole)))
local macro_rules | `(tactic| walk_at "getMethod ref") => `(tactic| (k_here; (with_reducible show wpAny _ _ (getMethod (Value.ref _) (Str.ofString "get") _) _ _ _); k_dflt (refine' getMethod_has ?H ?D ?_; (case D => exact News.get (by k_asm) (by k_mem)); (case H => assumption); k_whole)))
local macro_rules | `(tactic| walk_at "call builtin:dict.get") => `(tactic| (k_here; (with_reducible show wpAny _ _ (call (Value.builtin "dict.get") [Value.ref _, Value.str _ _]) _ _ _); k_dflt (refine' get_has ?H ?D ?s ?_; (case D => exact News.get (by k_asm) (by k_mem)); (case H => assumption); (case s => assumption); k_whole; (try dsimp only [Option.getD_some, Option.getD_none]))))


def isP (nm : Str) : Bool := (genOf nm).isSome || (specOf nm).isSome
def barL : List Str := [Str.ofString "INT", Str.ofString "REAL", Str.ofString "DBLE", Str.ofString "CMPLX", Str.ofString "ICHAR", Str.ofString "CHAR", Str.ofString "MAX", Str.ofString "MIN", Str.ofString "LOG", Str.ofString "LOG10"]
def barO : List Str := [Str.ofString "INT", Str.ofString "REAL", Str.ofString "ICHAR", Str.ofString "CHAR", Str.ofString "MAX", Str.ofString "MIN", Str.ofString "LGE", Str.ofString "LGT", Str.ofString "LLE", Str.ofString "LLT"]
def mayP (nm : Str) : Bool := match specOf nm with
  | none => (genOf nm).isSome && !(barL.any fun x => x == nm)
  | some p => if (barO.any fun x => x == p.1) = true then false else !(KTD.inWords p.1 manyL)
section
variable {nm : Str} {ks : List Int} {p : Str × Int}
theorem is1 (g : genOf nm = none) (h : specOf nm = none) : isP nm = false := by unfold isP; rw [g, h]; rfl
theorem is2 (g : genOf nm = none) (h : specOf nm = some p) : isP nm = true := by unfold isP; rw [g, h]; rfl
theorem is3 (g : genOf nm = some ks) : isP nm = true := by unfold isP; rw [g]; rfl
theorem ma1 (h : specOf nm = none) (g : genOf nm = none) : mayP nm = false := by unfold mayP; rw [h, g]; rfl
theorem ma2 (h : specOf nm = none) (g : genOf nm = some ks) : mayP nm = !(barL.any fun x => x == nm) := by unfold mayP; rw [h, g]; exact Bool.true_and _
theorem ma3 (h : specOf nm = some p) (b : (barO.any fun x => x == p.1) = true) : mayP nm = false := by unfold mayP; rw [h]; exact if_pos b
theorem ma4 (h : specOf nm = some p) (b : (barO.any fun x => x == p.1) = false) : mayP nm = !(KTD.inWords p.1 manyL) := by unfold mayP; rw [h]; exact if_neg (by rw [b]; exact Bool.false_ne_true)
end


theorem ct_is {w : World} {p : Program} {loose : List Str} {mean : ExcName → Option Value} {mg mb : Str → Option Value} {nm : Str} {tn : Tok} {news : List (Addr × Obj)}
  {dp un : Nat} {gd : Option (List Code)} {cn : Str} {cs : Scope} {a : Addr} {ccd : Value} {cl : List (Str × Addr)} {outer : List Env} {A₀ : Around} {base h₀ : Heap} {L : Addr} {m : Str → Option Value} {s : Shared} {Q E : Value → Shared → Prop} :
  Below A₀ base outer h₀ → Fr h₀ L s.heap m → (hd.heap_39 w.params).In h₀ → Top p loose mean mg mb h₀ → cs.kind = .function → dp < 330 → un < 60 → News h₀ L s.heap news →
  (∀ b h' tk', isP nm = b → Fr h₀ L h' m → News h₀ L h' news → Q (.bool b) { s with heap := h', toks := tk' }) →
  wpAny (model Challenge.rw_no0227_01.row.prog w) (ktrTop dp un gd cn cs L a ccd cl outer) (call (.ref 75) [.str nm tn]) Q E s := by
  k_fill
  intro B F X T hk hdp hun N hret
  refine wpAny_call ?_
  k_dflt cell_enter
  k_steps
  all_goals exact hret _ _ _ (by first
    | exact is1 (by assumption) (by assumption)
    | exact is2 (by assumption) (by assumption)
    | exact is3 (by assumption)
    | exact ma1 (by assumption) (by assumption)
    | exact ma2 (by assumption) (by assumption)
    | exact ma3 (by assumption) (by assumption)
    | exact ma4 (by assumption) (by assumption)) (by assumption) (cb_drop (by assumption) (by intro p hp; repeat (first | exact hp | refine List.mem_cons_of_mem _ ?_ | refine List.mem_append_left _ ?_)))


theorem ct_may {w : World} {p : Program} {loose : List Str} {mean : ExcName → Option Value} {mg mb : Str → Option Value} {nm : Str} {tn : Tok} {news : List (Addr × Obj)}
  {dp un : Nat} {gd : Option (List Code)} {cn : Str} {cs : Scope} {a : Addr} {ccd : Value} {cl : List (Str × Addr)} {outer : List Env} {A₀ : Around} {base h₀ : Heap} {L : Addr} {m : Str → Option Value} {s : Shared} {Q E : Value → Shared → Prop} :
  Below A₀ base outer h₀ → Fr h₀ L s.heap m → (hd.heap_39 w.params).In h₀ → Top p loose mean mg mb h₀ → cs.kind = .function → dp < 330 → un < 60 → News h₀ L s.heap news →
  (∀ b h' tk', mayP nm = b → Fr h₀ L h' m → News h₀ L h' news → Q (.bool b) { s with heap := h', toks := tk' }) →
  wpAny (model Challenge.rw_no0227_01.row.prog w) (ktrTop dp un gd cn cs L a ccd cl outer) (call (.ref 82) [.str nm tn]) Q E s := by
  k_fill
  intro B F X T hk hdp hun N hret
  refine wpAny_call ?_
  k_dflt cell_enter
  k_steps
  all_goals exact hret _ _ _ (by first
    | exact is1 (by assumption) (by assumption)
    | exact is2 (by assumption) (by assumption)
    | exact is3 (by assumption)
    | exact ma1 (by assumption) (by assumption)
    | exact ma2 (by assumption) (by assumption)
    | exact ma3 (by assumption) (by assumption)
    | exact ma4 (by assumption) (by assumption)) (by assumption) (cb_drop (by assumption) (by intro p hp; repeat (first | exact hp | refine List.mem_cons_of_mem _ ?_ | refine List.mem_append_left _ ?_)))


end Mine

namespace Mine
open PySem PySem.W PyProof.Rows PySem.Calls


def headOf (r : Str) : Str := (Txt.split r (Str.ofString ":")).headD Str.empty
section
variable {prog : Program} {w : World} {A : Around} {E : Value → Shared → Prop} {s : Shared} {h₀ : Heap} {L : Addr} {m : Str → Option Value} {env : Env}
def NamesAt (prog : Program) (w : World) (A : Around) (h₀ : Heap) (L : Addr) (m : Str → Option Value) (env : Env) (elt : Expr) (x : Str) (scope : Scope) (cl : List (Str × Addr)) (Q : Value → Shared → Prop) (xv : Value) (s₁ : Shared) : Prop :=
  ∃ news D l c, xv = .ref D ∧ (D, listOf (strValues l).toArray c) ∈ news ∧ l.map (·.1) = rowStrs ∧ Fr h₀ L s₁.heap m ∧ News h₀ L s₁.heap news ∧
    (∀ C r t s₂ m₂ E', r ∈ rowStrs → Fr s₁.heap C s₂.heap m₂ → m₂ x = some (.str r t) →
      wpAny (model prog w) A (eval elt (compEnvC scope cl C env)) (fun y s₃ => Carried y (.str (headOf r)) ∧ Keeps s₂ s₃) E' s₂) ∧
    (∀ D' ys c' h' tk, StrsAre ys (rowStrs.map headOf) → Fr h₀ L h' m → News h₀ L h' ((D', listOf ys.toArray c') :: news) → Q (.ref D') { s₁ with heap := h', toks := tk })
theorem strs_carried : ∀ {ys : List Value} {ss : List Str}, CarriedAll ys (ss.map PyData.str) → StrsAre ys ss
  | [], [], _ => .nil
  | [], _ :: _, h => nomatch h
  | _ :: _, [], h => nomatch h
  | v :: ys, x :: ss, h => by
    cases h with
    | cons h1 h2 =>
      cases h1
      exact .cons _ _ (strs_carried h2)
theorem names_comp {elt iter : Expr} {x : Str} {px : Pos} {scope : Scope} {cl : List (Str × Addr)} {pos : Pos} {Q : Value → Shared → Prop}
    (_F₀ : Fr h₀ L s.heap m) (hh : A.handled = none) (hclos : closureFor scope env = pure cl) (hcell : ∀ y ∈ scope.names, y.2 ≠ .cell) (hkind : scope.kind = .function)
    (hnames : ∀ y ∈ scope.names, y.2 = .local → scope.names.lookup y.1 = some .local) (hx : scope.names.lookup x = some .local)
    (h : wpAny (model prog w) A (eval iter env) (NamesAt prog w A h₀ L m env elt x scope cl Q) E s)
    (hs : ∀ x, foldedSetIterable iter env x = pure x) :
    wpAny (model prog w) A (eval (.ListComp elt [⟨.Name x px, iter, [], 0⟩] scope pos) env) Q E s := by
  refine ListComp_DCn (K := .str) (pz := fun _ => true) (d := fun r => .str (headOf r)) (h₀ := h₀) (L := L) (m := m) hh hclos hcell hkind hnames hx (wpAny_mono h (fun xv s₁ h₁ => ?_) fun _ _ e => e) hs
  obtain ⟨news, D, l, c, rfl, hD, hl, F, N, helt, fin⟩ := h₁
  have hsa : StrsAre (strValues l) rowStrs := hl ▸ strsAre_of_values l
  refine ⟨news, D, strValues l, rowStrs, rfl, ⟨_, (N _ hD).1, rfl, _, rfl⟩, hsa.areOf, by decide, F, N, ?_, ?_, ?_⟩
  · intro C a v s₂ m₂ E' _ _ _ _ _ _
    exact wpAny_pure ⟨rfl, s₂.heap, s₂.toks, rfl, fun _ _ e => e⟩
  · intro C a v s₂ m₂ E' hC ha hv _ hn hm hk
    obtain ⟨t, rfl⟩ := hv
    exact helt C a t s₂ m₂ E' ha (frInComp hn hk hC) hm
  · intro D' ys h' tk F' N' hn hl' hp hc
    obtain ⟨⟨n, ho⟩, hne⟩ := hp
    have hLn : D' ≠ L := NewPlain.ne_locals ⟨⟨n, ho⟩, hne⟩ F'
    refine fin D' ys n h' tk (strs_carried ?_) F' fun p hp => ?_
    · have : (rowStrs.filter fun _ => true) = rowStrs := List.filter_eq_self.mpr fun _ _ => rfl
      rw [this] at hc
      rw [List.map_map]
      exact hc
    · rcases List.mem_cons.mp hp with rfl | hp
      · exact ⟨ho, hLn, hn⟩
      · exact N' p hp
end

section
variable {prog : Program} {w : World} {A : Around} {E : Value → Shared → Prop} {s : Shared} {h₀ : Heap} {L : Addr} {m : Str → Option Value} {news : List (Addr × Obj)}
theorem parts_small : ∀ r ∈ rowStrs, (Builtin.Str.partsBetween r (Builtin.Str.occurrences r (Str.ofString ":") 0 r.length (r.length + 1)) (Str.ofString ":").length).length ≤ sizeLine := by decide +kernel
theorem split_elem {r : Str} {t u : Tok} {Q : Value → Shared → Prop} (hr : r ∈ rowStrs)
    (h : ∀ D l h' k, l.map (·.1) = Txt.split r (Str.ofString ":") → (∀ b o, s.heap.get? b = some o → h'.get? b = some o) → h'.IsList D (strValues l).toArray → Q (.ref D) { s with heap := h', toks := k }) :
    wpAny (model prog w) A (call (.builtin "str.split") [.str r t, .str (Str.ofString ":") u]) Q E s :=
  SCH.split1 (P := fun g => ∀ b o, s.heap.get? b = some o → g.get? b = some o) (fun g ob p b o e => Heap.get?_push_of_some _ (p b o e)) (fun b o e => e) (by decide) (fun D l h' k e p hl => h D l h' k e p hl) (by have := len_rows r hr; omega) (parts_small r hr)
theorem item_elem {r : Str} {D : Addr} {l : List (Str × Tok)} {value slice : Expr} {u : Tok} {Q : Value → Shared → Prop} (hl : s.heap.IsList D (strValues l).toArray) (e : l.map (·.1) = Txt.split r (Str.ofString ":")) (h : ∀ t', Q (.str (headOf r) t') s)
    (hs : subscripted slice false (.ref D) (.int 0 u) = operate [.ref D, .int 0 u] (getItem (.ref D) (.int 0 u)) := by with_unfolding_all rfl) :
    wpAny (model prog w) A (subscriptTail value slice (.ref D) (.int 0 u)) Q E s := by
  have hp := split_pos r (Str.ofString ":")
  refine KTb.item_list hl (strsAre_of_values l) (by decide) ?_ (by decide) (fun t' _ => ?_) hs
  · rw [e]; omega
  · have k : (l.map (·.1)).getD (Int.toNat 0) Str.empty = headOf r := by
      rw [e]; unfold headOf
      cases Txt.split r (Str.ofString ":") <;> rfl
    rw [k]; exact h t'
def noneL : List Str := [Str.ofString "X", Str.ofString "", Str.ofString "MAX2", Str.ofString "sin", Str.ofString "CTAN", Str.ofString "AMAX", Str.ofString "DCMPLX", Str.ofString "CLOG10"]
def namesAll : List Str := rowStrs.map headOf ++ noneL
/-- the law's list of names -/
structure NamesL (zs : List Value) : Prop where
  out : StrsAre zs namesAll
theorem strs_app : ∀ {vs ws : List Value} {ys zs : List Str}, StrsAre vs ys → StrsAre ws zs → StrsAre (vs ++ ws) (ys ++ zs)
  | _, _, _, _, .nil, h => h
  | _, _, _, _, .cons y t h1, h => .cons y t (strs_app h1 h)
theorem none_list (X : (hd.heap_39 w.params).In h₀) : ∃ ws, StrsAre ws noneL ∧ h₀.IsList 123 ws.toArray :=
  ⟨_, .cons _ _ (.cons _ _ (.cons _ _ (.cons _ _ (.cons _ _ (.cons _ _ (.cons _ _ (.cons _ _ .nil))))))), _, X 123 _ rfl, rfl, _, rfl⟩
theorem add_names {D : Addr} {ys : List Value} {c : Nat} {Q : Value → Shared → Prop} (F : Fr h₀ L s.heap m) (X : (hd.heap_39 w.params).In h₀) (N : News h₀ L s.heap news) (hm : (D, listOf ys.toArray c) ∈ news) (hs : StrsAre ys (rowStrs.map headOf))
    (h : ∀ D' zs h', NamesL zs → Fr h₀ L h' m → News h₀ L h' ((D', listOf zs.toArray 0) :: news) → Q (.ref D') { s with heap := h' }) :
    wpAny (model prog w) A (binaryOp .Add (.ref D) (.ref 123)) Q E s := by
  obtain ⟨ws, hw, o, ho, r⟩ := none_list X
  refine add_lists F N ⟨_, (N _ hm).1, rfl, _, rfl⟩ ⟨o, F.keep _ _ ho, r⟩ (fun h' F' N' => h _ _ h' ⟨strs_app hs hw⟩ F' N') ?_
  have e1 := hs.length
  have e2 := hw.length
  rw [e1, e2]; decide
end


end Mine

namespace Mine
open PySem PySem.W PyProof.Rows PySem.Calls


/-- the law's frame between two turns: what the turns leave is not asked -/
def lawMap (Dn Dm : Addr) (u : Str → Option Value) : Str → Option Value := fun y => if y = Str.ofString "numbers" then some (.ref Dm) else if y = Str.ofString "names" then some (.ref Dn) else u y
theorem lawMap_self {Dn Dm : Addr} {m : Str → Option Value} (h1 : m (Str.ofString "names") = some (.ref Dn)) (h2 : m (Str.ofString "numbers") = some (.ref Dm)) : lawMap Dn Dm m = m := by
  funext y; unfold lawMap; split
  · rename_i e; rw [e, h2]
  · split
    · rename_i e; rw [e, h1]
    · rfl
section
variable {prog : Program} {w : World} {A : Around} {E : Value → Shared → Prop} {s : Shared} {h₀ : Heap} {env : Env} {body : List Stmt} {Q : Flow → Shared → Prop} {x : Str} {px : Pos} {Dn Dm I : Addr} {news : List (Addr × Obj)}
def LawTurn (prog : Program) (w : World) (A : Around) (E : Value → Shared → Prop) (s : Shared) (h₀ : Heap) (env : Env) (body : List Stmt) (Q : Flow → Shared → Prop) (x : Str) (px : Pos) (Dn Dm : Addr) (news : List (Addr × Obj)) (k : Nat) : Prop :=
  ∀ (at_ : Int) t u h tk I o, 0 ≤ at_ → at_ ≤ k → (∀ p ∈ news, p.1 < I) → o.cls = .type "range_iterator" → Fr h₀ env.locals h (lawMap Dn Dm u) → News h₀ env.locals h ((I, o) :: news) →
    wpAny (model prog w) A (assign (.Name x px) env (.int at_ t)) (fun _ s₂ => wpAny (model prog w) A (execs body env) (UnrPostW h₀ env.locals { s with heap := h, toks := tk } [(I, o)] (fun m' n' => n' = news ∧ m' (Str.ofString "names") = some (.ref Dn) ∧ m' (Str.ofString "numbers") = some (.ref Dm)) Q) E s₂) E { s with heap := h, toks := tk }
theorem law_rest {k : Nat} (hI : ∀ p ∈ news, p.1 < I) (turn : LawTurn prog w A E s h₀ env body Q x px Dn Dm news k)
    (fin : ∀ m' h t, Fr h₀ env.locals h m' → News h₀ env.locals h news → Q .next { s with heap := h, toks := t }) :
    ∀ (ats : List Int), (∀ a ∈ ats, 0 ≤ a ∧ a ≤ k) → ∀ u, ItemsRest prog w A E h₀ env (.Name x px) body Q s [(I, "range_iterator")] [] (ats.map fun a => .tok fun t => .int a t) (lawMap Dn Dm u) news
  | [], _, u => ItemsRest.zero fun h t F N => fin _ h t F N
  | a :: ats, ha, u => ItemsRest.tok fun t h tk F => AllObj.cons fun o ho => AllObj.nil fun N => by
    refine wpAny_mono (turn a t u h tk I o (ha a (.head _)).1 (ha a (.head _)).2 hI ho F N) (fun _ s₂ h₂ => wpAny_mono h₂ (fun f s₃ h₃ => unrEnd_mono (fun m' n' k => ?_) f s₃ h₃) fun _ _ e => e) fun _ _ e => e
    obtain ⟨e, h1, h2⟩ := k
    rw [e, ← lawMap_self h1 h2]
    exact ⟨trivial, law_rest hI turn fin ats (fun b hb => ha b (.tail _ hb)) m'⟩
theorem range_small : ∀ k, k < 19 → Builtin.Range.small 0 ((k + (1 + 1 + 1) : Nat) - 2 : Int) 3 = true := by decide
theorem law_loop {r : Addr} {k : Nat} {t u v : Tok} {m : Str → Option Value} (hk : k ≤ 18) (hh : A.handled = none) (F : Fr h₀ env.locals s.heap m) (N : News h₀ env.locals s.heap news) (h1 : m (Str.ofString "names") = some (.ref Dn)) (h2 : m (Str.ofString "numbers") = some (.ref Dm))
    (hr : IsRange s.heap r 0 ((k + (1 + 1 + 1) : Nat) - 2 : Int) 3 t u v)
    (turn : LawTurn prog w A E s h₀ env body Q x px Dn Dm news k)
    (fin : ∀ m' h t, Fr h₀ env.locals h m' → News h₀ env.locals h news → Q .next { s with heap := h, toks := t }) :
    wpAny (model prog w) A (pyIter (.ref r)) (fun it s₂ => TurnsAt prog w A h₀ env (.Name x px) body Q E it s₂) E s := by
  refine wpAny_pyIter_range hr (range_small k (by omega)) ?_
  obtain ⟨n, hn⟩ : ∃ n : Nat, Builtin.Range.rangeSize 0 ((k + (1 + 1 + 1) : Nat) - 2 : Int) 3 = (n : Int) := ⟨_, rangeSize_toNat _ _ _⟩
  have items : ItemsRest prog w A E h₀ env (.Name x px) body Q s [(s.heap.objs.size, "range_iterator")] [] (((List.range n).map fun (i : Nat) => (0 + (i : Int) * 3)).map fun a => .tok fun t => .int a t) m news := by
    rw [← lawMap_self h1 h2]
    refine law_rest (fun p hp => Heap.lt_size (N p hp).1) turn fin _ (fun a ha => ?_) m
    obtain ⟨i, hi, rfl⟩ := List.mem_map.mp ha
    have hi' := List.mem_range.mp hi
    have := start_inside (len := ((k + (1 + 1 + 1) : Nat) - 2 : Int)) (c := 3) (v := i) (by decide) (by omega) (by omega) (by rw [hn]; omega)
    omega
  refine ktu_core (tk0 := s.toks) (keep := []) (KTurns.ofWalks ((Walks.range hh s.heap.objs.size 0 3 n).bound) fun i v s Q E st q => wpAny_pure q) (by simp) (fun i v h hp => ?_) (fun i h st => ?_) (fun b hb => ?_) (fun b hb => by simpa using hb) (fun b hb => ?_) ?_ (fun p hp hI => ?_) ?_ (F.push _) (fun p hp => ⟨Heap.get?_push_of_some _ (N p hp).1, (N p hp).2⟩) trivial items
  · obtain ⟨hi, z⟩ : i < n ∧ ∃ t, v = .int (0 + (i : Int) * 3) t := hp
    obtain ⟨t, rfl⟩ := z
    exact ⟨.tok fun t => .int (0 + (i : Int) * 3) t, by simp [hi], t, rfl⟩
  · exact ⟨[(s.heap.objs.size, _)], ⟨⟨rfl, rfl⟩, trivial⟩, fun p hp => by rw [List.mem_singleton.mp hp]; exact st⟩
  · have hb' : b = s.heap.objs.size := by simpa using hb
    rw [hb']
    exact ⟨List.mem_cons_self .., next_is_new F⟩
  · have hb' : b = s.heap.objs.size := by simpa using hb
    exact .inl (by simp [hb'])
  · intro hI
    have e := List.mem_singleton.mp hI
    exact absurd F.ns.lt (e ▸ Nat.lt_irrefl _)
  · exact absurd (Heap.lt_size (N p hp).1) ((List.mem_singleton.mp hI) ▸ Nat.lt_irrefl _)
  · show IsRangeIter _ _ _ _ _
    rw [hn]
    simpa using Heap.get?_push_size _ rfl
end


end Mine

namespace Mine
open PySem PySem.W PyProof.Rows PySem.Calls

local macro_rules | `(tactic| walk_at "exec Raise some none") => `(tactic| (k_here; (with_reducible show wpAny _ _ (exec (Stmt.Raise (some (Expr.Call (Expr.Name ("CheckFault" : Str) _) _ _ _)) none _) _) _ _ _); refine Raise_thrown rfl ?_))
local macro_rules | `(tactic| walk_at "call ref") => `(tactic| (k_here; (with_reducible show wpAny _ _ (call (Value.ref 44) [Value.str _ _]) _ _ _); k_dflt (refine' kfault ?F ?X ?N ?h1 ?h2 ?h3 ?h5 ?_; (case F => k_asm); (case X => k_asm); (case N => k_asm); (case h1 => exact rfl); (case h3 => exact rfl); (case h2 => first | decide | (simp only [depth_under_make, depth_under_kw, depth_in1, depth_deeper, depth_caller]; (try dsimp only [ktrTop]); omega)); (case h5 => first | decide | (simp only [units_in1, units_deeper, Around.mark_units, units_caller]; (try dsimp only [ktrTop]); omega)); k_whole); intro e' ta' h' tk' fa' F' N'; (obtain ⟨dd', sl', he'⟩ := fa'.there)))
local macro_rules | `(tactic| walk_at "Thrown") => `(tactic| (refine ⟨_, _, _, _, rfl, by k_in, by kts_isx, by assumption, ?_⟩))
local macro_rules | `(tactic| walk_at "leaving ref") => `(tactic| (k_here; first
  | ((rename FaultAt _ _ _ _ _ _ => fa9); refine' leave_fault ?K fa9 ?F ?N ?_; (case K => assumption); (case F => assumption); (case N => k_asm); k_whole; intro h' S' R' U'; (try dsimp only at S' R' U' ⊢))
  | (refine' leave_onS ?k1 ?k2 ?k3 ?k4 ?_; (case k3 => assumption); (case k2 => assumption); (case k1 => assumption); (case k4 => assumption); k_whole; intro h' S' R' U'; (try dsimp only at S' R' U' ⊢))))
local macro_rules | `(tactic| walk_at "call ref") => `(tactic| (k_here; (with_reducible show wpAny _ _ (call (Value.ref 61) _) _ _ _); k_dflt (refine' kgeneric1 $(Lean.mkIdent `nm) ?F ?X ?N ?h1 ?h2 ?h3 ?h5 ?_; (case F => k_asm); (case X => k_asm); (case N => k_asm); (case h1 => exact rfl); (case h3 => exact rfl); (case h2 => first | decide | (simp only [depth_under_make, depth_under_kw, depth_in1, depth_deeper, depth_caller]; (try dsimp only [ktrTop]); omega)); (case h5 => first | decide | (simp only [units_in1, units_deeper, Around.mark_units, units_caller]; (try dsimp only [ktrTop]); omega)); all_goals intros)))
local macro_rules | `(tactic| walk_at "call ref") => `(tactic| (k_here; (with_reducible show wpAny _ _ (call (Value.ref 68) _) _ _ _); k_dflt (refine' kspecific $(Lean.mkIdent `nm) ?F ?X ?N ?h1 ?h2 ?h3 ?h5 ?_ ?_; (case F => k_asm); (case X => k_asm); (case N => k_asm); (case h1 => exact rfl); (case h3 => exact rfl); (case h2 => first | decide | (simp only [depth_under_make, depth_under_kw, depth_in1, depth_deeper, depth_caller]; (try dsimp only [ktrTop]); omega)); (case h5 => first | decide | (simp only [units_in1, units_deeper, Around.mark_units, units_caller]; (try dsimp only [ktrTop]); omega)); all_goals intros)))
local macro_rules | `(tactic| walk_at "compareOp In str ref") => `(tactic| (k_here; k_dflt (refine' in_gen ?G ?D ?s ?_ ?_; (case D => exact News.get (by k_asm) (by k_mem)); (case G => assumption); (case s => assumption); all_goals intros)))
local macro_rules | `(tactic| walk_at "compareOp In str ref") => `(tactic| (k_here; k_dflt (refine' in_has ?H ?D ?s ?_; (case D => exact News.get (by k_asm) (by k_mem)); (case H => assumption); (case s => assumption); k_whole; (try dsimp only [Option.isSome_some, Option.isSome_none]))))
local macro_rules | `(tactic| walk_at "subscriptTail") => `(tactic| (k_here; (with_reducible show wpAny _ _ (subscriptTail _ _ (Value.ref _) (Value.str _ _)) _ _ _); k_dflt (refine' item_has ?H ?D ?_; (case D => exact News.get (by k_asm) (by k_mem)); (case H => assumption); k_whole)))
local macro_rules | `(tactic| walk_at "getMethod ref") => `(tactic| (k_here; (with_reducible show wpAny _ _ (getMethod (Value.ref _) (Str.ofString "get") _) _ _ _); k_dflt (refine' getMethod_has ?H ?D ?_; (case D => exact News.get (by k_asm) (by k_mem)); (case H => assumption); k_whole)))
local macro_rules | `(tactic| walk_at "call builtin:dict.get") => `(tactic| (k_here; (with_reducible show wpAny _ _ (call (Value.builtin "dict.get") [Value.ref _, Value.str _ _]) _ _ _); k_dflt (refine' get_has ?H ?D ?s ?_; (case D => exact News.get (by k_asm) (by k_mem)); (case H => assumption); (case s => assumption); k_whole; (try dsimp only [Option.getD_some, Option.getD_none]))))


def barText : Str := Str.mk #[73, 78, 84, 32, 82, 69, 65, 76, 32, 68, 66, 76, 69, 32, 67, 77, 80, 76, 88, 32, 73, 70, 73, 88, 32, 73, 68, 73, 78, 84, 32, 70, 76, 79, 65, 84, 32, 83, 78, 71, 76, 32, 73, 67, 72, 65, 82, 32, 67, 72, 65, 82, 32, 77, 65, 88, 32, 77, 73, 78, 32, 77, 65, 88, 48, 32, 65, 77, 65, 88, 49, 32, 68, 77, 65, 88, 49, 32, 65, 77, 65, 88, 48, 32, 77, 65, 88, 49, 32, 77, 73, 78, 48, 32, 65, 77, 73, 78, 49, 32, 68, 77, 73, 78, 49, 32, 65, 77, 73, 78, 48, 32, 77, 73, 78, 49, 32, 76, 71, 69, 32, 76, 71, 84, 32, 76, 76, 69, 32, 76, 76, 84, 32, 76, 79, 71, 32, 76, 79, 71, 49, 48]
def barWords : List Str := [Str.mk #[73, 78, 84], Str.mk #[82, 69, 65, 76], Str.mk #[68, 66, 76, 69], Str.mk #[67, 77, 80, 76, 88], Str.mk #[73, 70, 73, 88], Str.mk #[73, 68, 73, 78, 84], Str.mk #[70, 76, 79, 65, 84], Str.mk #[83, 78, 71, 76], Str.mk #[73, 67, 72, 65, 82], Str.mk #[67, 72, 65, 82], Str.mk #[77, 65, 88], Str.mk #[77, 73, 78], Str.mk #[77, 65, 88, 48], Str.mk #[65, 77, 65, 88, 49], Str.mk #[68, 77, 65, 88, 49], Str.mk #[65, 77, 65, 88, 48], Str.mk #[77, 65, 88, 49], Str.mk #[77, 73, 78, 48], Str.mk #[65, 77, 73, 78, 49], Str.mk #[68, 77, 73, 78, 49], Str.mk #[65, 77, 73, 78, 48], Str.mk #[77, 73, 78, 49], Str.mk #[76, 71, 69], Str.mk #[76, 71, 84], Str.mk #[76, 76, 69], Str.mk #[76, 76, 84], Str.mk #[76, 79, 71], Str.mk #[76, 79, 71, 49, 48]]
theorem bp0 : (Str.ofString "INT REAL DBLE CMPLX IFIX IDINT FLOAT SNGL ICHAR CHAR MAX MIN MAX0 AMAX1 DMAX1 AMAX0 MAX1 MIN0 AMIN1 DMIN1 AMIN0 ").cps.toList = [73, 78, 84, 32, 82, 69, 65, 76, 32, 68, 66, 76, 69, 32, 67, 77, 80, 76, 88, 32, 73, 70, 73, 88, 32, 73, 68, 73, 78, 84, 32, 70, 76, 79, 65, 84, 32, 83, 78, 71, 76, 32, 73, 67, 72, 65, 82, 32, 67, 72, 65, 82, 32, 77, 65, 88, 32, 77, 73, 78, 32, 77, 65, 88, 48, 32, 65, 77, 65, 88, 49, 32, 68, 77, 65, 88, 49, 32, 65, 77, 65, 88, 48, 32, 77, 65, 88, 49, 32, 77, 73, 78, 48, 32, 65, 77, 73, 78, 49, 32, 68, 77, 73, 78, 49, 32, 65, 77, 73, 78, 48, 32] := by decide +kernel
theorem bp1 : (Str.ofString "MIN1 LGE LGT LLE LLT LOG LOG10").cps.toList = [77, 73, 78, 49, 32, 76, 71, 69, 32, 76, 71, 84, 32, 76, 76, 69, 32, 76, 76, 84, 32, 76, 79, 71, 32, 76, 79, 71, 49, 48] := by decide +kernel
theorem btext_eq : Str.ofString "INT REAL DBLE CMPLX IFIX IDINT FLOAT SNGL ICHAR CHAR MAX MIN MAX0 AMAX1 DMAX1 AMAX0 MAX1 MIN0 AMIN1 DMIN1 AMIN0 " ++ Str.ofString "MIN1 LGE LGT LLE LLT LOG LOG10" = barText := str_list (by simp only [Str.cps_append, Array.toList_append, bp0, bp1]; rfl)
theorem split_bar : Txt.split barText (Str.ofString " ") = barWords := split_is (by decide +kernel)
theorem sz_bar : barText.length + 2 ≤ sizeLine := by decide +kernel
theorem ct_btext {w : World} {p : Program} {loose : List Str} {mean : ExcName → Option Value} {mg mb : Str → Option Value} {news : List (Addr × Obj)}
  {dp un : Nat} {gd : Option (List Code)} {cn : Str} {cs : Scope} {a : Addr} {ccd : Value} {cl : List (Str × Addr)} {outer : List Env} {A₀ : Around} {base h₀ : Heap} {L : Addr} {m : Str → Option Value} {s : Shared} {Q E : Value → Shared → Prop} :
  Below A₀ base outer h₀ → Fr h₀ L s.heap m → (hd.heap_39 w.params).In h₀ → Top p loose mean mg mb h₀ → cs.kind = .function → dp < 350 → un < 100 → News h₀ L s.heap news →
  (∀ t h' tk', Fr h₀ L h' m → News h₀ L h' news → Q (.str barText t) { s with heap := h', toks := tk' }) →
  wpAny (model Challenge.rw_no0227_01.row.prog w) (ktrTop dp un gd cn cs L a ccd cl outer) (call (.ref 130) []) Q E s := by
  k_fill
  intro B F X T hk hdp hun N hret
  refine wpAny_call ?_
  k_dflt cell_enter
  k_steps
  all_goals
    have e : ∀ x t sh, x = barText → Q (.str barText t) sh → Q (.str x t) sh := fun x t sh e h => e ▸ h
    exact e _ _ _ btext_eq (hret _ _ _ (by assumption) (by assumption))
section
variable {prog : Program} {w : World} {A : Around} {E : Value → Shared → Prop} {s : Shared} {h₀ : Heap} {L : Addr} {m : Str → Option Value} {news : List (Addr × Obj)}
theorem item_names {D : Addr} {zs : List Value} {c : Nat} {value slice : Expr} {i : Int} {u : Tok} {Q : Value → Shared → Prop} (N : News h₀ L s.heap news) (hm : (D, listOf zs.toArray c) ∈ news) (hs : NamesL zs) (h0 : 0 ≤ i) (h1 : i < 93) (h : ∀ nm t', nm ∈ namesAll → Q (.str nm t') s)
    (hs' : subscripted slice false (.ref D) (.int i u) = operate [.ref D, .int i u] (getItem (.ref D) (.int i u)) := by with_unfolding_all rfl) :
    wpAny (model prog w) A (subscriptTail value slice (.ref D) (.int i u)) Q E s := by
  have hlen : namesAll.length = 93 := by decide +kernel
  refine KTb.item_list ⟨_, (N _ hm).1, rfl, _, rfl⟩ hs.out h0 (by rw [hlen]; exact h1) (by omega) (fun t' hl => h _ t' ?_) hs'
  rw [List.getD_eq_getElem?_getD, List.getElem?_eq_getElem hl]
  exact List.getElem_mem hl
end


end Mine

namespace Mine
open PySem PySem.W PyProof.Rows PySem.Calls

abbrev RowT : Type := Str × Option Str × Str × Str
def combo0 : List (Str × Option (Str × List Int) × Option RowT) := [
  (Str.mk #[73, 78, 84], some (Str.mk #[73, 78, 84], [0, 1, 2, 3]), some ((Str.mk #[73, 78, 84], none, Str.mk #[48, 49, 50, 51], Str.mk #[48]))),
  (Str.mk #[82, 69, 65, 76], some (Str.mk #[82, 69, 65, 76], [0, 1, 2, 3]), some ((Str.mk #[82, 69, 65, 76], none, Str.mk #[48, 49, 50, 51], Str.mk #[49]))),
  (Str.mk #[68, 66, 76, 69], some (Str.mk #[68, 66, 76, 69], [0, 1, 2, 3]), some ((Str.mk #[68, 66, 76, 69], none, Str.mk #[48, 49, 50, 51], Str.mk #[50]))),
  (Str.mk #[67, 77, 80, 76, 88], some (Str.mk #[67, 77, 80, 76, 88], [0, 1, 2, 3]), some ((Str.mk #[67, 77, 80, 76, 88], none, Str.mk #[48, 49, 50, 51], Str.mk #[51]))),
  (Str.mk #[65, 73, 78, 84], some (Str.mk #[65, 73, 78, 84], [1, 2]), some ((Str.mk #[65, 73, 78, 84], none, Str.mk #[49, 50], Str.mk #[61]))),
  (Str.mk #[65, 78, 73, 78, 84], some (Str.mk #[65, 78, 73, 78, 84], [1, 2]), some ((Str.mk #[65, 78, 73, 78, 84], none, Str.mk #[49, 50], Str.mk #[61]))),
  (Str.mk #[78, 73, 78, 84], some (Str.mk #[78, 73, 78, 84], [1, 2]), some ((Str.mk #[78, 73, 78, 84], none, Str.mk #[49, 50], Str.mk #[48]))),
  (Str.mk #[65, 66, 83], some (Str.mk #[65, 66, 83], [0, 1, 2, 3]), some ((Str.mk #[65, 66, 83], none, Str.mk #[48, 49, 50, 51], Str.mk #[61]))),
  (Str.mk #[77, 79, 68], some (Str.mk #[77, 79, 68], [0, 1, 2]), some ((Str.mk #[77, 79, 68], none, Str.mk #[48, 49, 50], Str.mk #[61]))),
  (Str.mk #[83, 73, 71, 78], some (Str.mk #[83, 73, 71, 78], [0, 1, 2]), some ((Str.mk #[83, 73, 71, 78], none, Str.mk #[48, 49, 50], Str.mk #[61]))),
  (Str.mk #[68, 73, 77], some (Str.mk #[68, 73, 77], [0, 1, 2]), some ((Str.mk #[68, 73, 77], none, Str.mk #[48, 49, 50], Str.mk #[61]))),
  (Str.mk #[77, 65, 88], some (Str.mk #[77, 65, 88], [0, 1, 2]), some ((Str.mk #[77, 65, 88], none, Str.mk #[48, 49, 50], Str.mk #[61]))),
  (Str.mk #[77, 73, 78], some (Str.mk #[77, 73, 78], [0, 1, 2]), some ((Str.mk #[77, 73, 78], none, Str.mk #[48, 49, 50], Str.mk #[61]))),
  (Str.mk #[83, 81, 82, 84], some (Str.mk #[83, 81, 82, 84], [1, 2, 3]), some ((Str.mk #[83, 81, 82, 84], none, Str.mk #[49, 50, 51], Str.mk #[61]))),
  (Str.mk #[69, 88, 80], some (Str.mk #[69, 88, 80], [1, 2, 3]), some ((Str.mk #[69, 88, 80], none, Str.mk #[49, 50, 51], Str.mk #[61]))),
  (Str.mk #[76, 79, 71], some (Str.mk #[76, 79, 71], [1, 2, 3]), some ((Str.mk #[76, 79, 71], none, Str.mk #[49, 50, 51], Str.mk #[61]))),
  (Str.mk #[76, 79, 71, 49, 48], some (Str.mk #[76, 79, 71, 49, 48], [1, 2]), some ((Str.mk #[76, 79, 71, 49, 48], none, Str.mk #[49, 50], Str.mk #[61]))),
  (Str.mk #[83, 73, 78], some (Str.mk #[83, 73, 78], [1, 2, 3]), some ((Str.mk #[83, 73, 78], none, Str.mk #[49, 50, 51], Str.mk #[61]))),
  (Str.mk #[67, 79, 83], some (Str.mk #[67, 79, 83], [1, 2, 3]), some ((Str.mk #[67, 79, 83], none, Str.mk #[49, 50, 51], Str.mk #[61]))),
  (Str.mk #[84, 65, 78], some (Str.mk #[84, 65, 78], [1, 2]), some ((Str.mk #[84, 65, 78], none, Str.mk #[49, 50], Str.mk #[61]))),
  (Str.mk #[65, 83, 73, 78], some (Str.mk #[65, 83, 73, 78], [1, 2]), some ((Str.mk #[65, 83, 73, 78], none, Str.mk #[49, 50], Str.mk #[61]))),
  (Str.mk #[65, 67, 79, 83], some (Str.mk #[65, 67, 79, 83], [1, 2]), some ((Str.mk #[65, 67, 79, 83], none, Str.mk #[49, 50], Str.mk #[61]))),
  (Str.mk #[65, 84, 65, 78], some (Str.mk #[65, 84, 65, 78], [1, 2]), some ((Str.mk #[65, 84, 65, 78], none, Str.mk #[49, 50], Str.mk #[61]))),
  (Str.mk #[65, 84, 65, 78, 50], some (Str.mk #[65, 84, 65, 78, 50], [1, 2]), some ((Str.mk #[65, 84, 65, 78, 50], none, Str.mk #[49, 50], Str.mk #[61])))]
def combo1 : List (Str × Option (Str × List Int) × Option RowT) := [
  (Str.mk #[83, 73, 78, 72], some (Str.mk #[83, 73, 78, 72], [1, 2]), some ((Str.mk #[83, 73, 78, 72], none, Str.mk #[49, 50], Str.mk #[61]))),
  (Str.mk #[67, 79, 83, 72], some (Str.mk #[67, 79, 83, 72], [1, 2]), some ((Str.mk #[67, 79, 83, 72], none, Str.mk #[49, 50], Str.mk #[61]))),
  (Str.mk #[84, 65, 78, 72], some (Str.mk #[84, 65, 78, 72], [1, 2]), some ((Str.mk #[84, 65, 78, 72], none, Str.mk #[49, 50], Str.mk #[61]))),
  (Str.mk #[73, 70, 73, 88], some (Str.mk #[73, 78, 84], [1]), some ((Str.mk #[73, 70, 73, 88], some (Str.mk #[73, 78, 84]), Str.mk #[49], Str.mk #[48]))),
  (Str.mk #[73, 68, 73, 78, 84], some (Str.mk #[73, 78, 84], [2]), some ((Str.mk #[73, 68, 73, 78, 84], some (Str.mk #[73, 78, 84]), Str.mk #[50], Str.mk #[48]))),
  (Str.mk #[70, 76, 79, 65, 84], some (Str.mk #[82, 69, 65, 76], [0]), some ((Str.mk #[70, 76, 79, 65, 84], some (Str.mk #[82, 69, 65, 76]), Str.mk #[48], Str.mk #[49]))),
  (Str.mk #[83, 78, 71, 76], some (Str.mk #[82, 69, 65, 76], [2]), some ((Str.mk #[83, 78, 71, 76], some (Str.mk #[82, 69, 65, 76]), Str.mk #[50], Str.mk #[49]))),
  (Str.mk #[65, 77, 65, 88, 48], some (Str.mk #[65, 77, 65, 88, 48], [0]), some ((Str.mk #[65, 77, 65, 88, 48], some (Str.mk #[65, 77, 65, 88, 48]), Str.mk #[48], Str.mk #[49]))),
  (Str.mk #[77, 65, 88, 49], some (Str.mk #[77, 65, 88, 49], [1]), some ((Str.mk #[77, 65, 88, 49], some (Str.mk #[77, 65, 88, 49]), Str.mk #[49], Str.mk #[48]))),
  (Str.mk #[65, 77, 73, 78, 48], some (Str.mk #[65, 77, 73, 78, 48], [0]), some ((Str.mk #[65, 77, 73, 78, 48], some (Str.mk #[65, 77, 73, 78, 48]), Str.mk #[48], Str.mk #[49]))),
  (Str.mk #[77, 73, 78, 49], some (Str.mk #[77, 73, 78, 49], [1]), some ((Str.mk #[77, 73, 78, 49], some (Str.mk #[77, 73, 78, 49]), Str.mk #[49], Str.mk #[48]))),
  (Str.mk #[73, 67, 72, 65, 82], some (Str.mk #[73, 67, 72, 65, 82], [5]), some ((Str.mk #[73, 67, 72, 65, 82], some (Str.mk #[73, 67, 72, 65, 82]), Str.mk #[53], Str.mk #[48]))),
  (Str.mk #[67, 72, 65, 82], some (Str.mk #[67, 72, 65, 82], [0]), some ((Str.mk #[67, 72, 65, 82], some (Str.mk #[67, 72, 65, 82]), Str.mk #[48], Str.mk #[53]))),
  (Str.mk #[68, 73, 78, 84], some (Str.mk #[65, 73, 78, 84], [2]), some ((Str.mk #[68, 73, 78, 84], some (Str.mk #[65, 73, 78, 84]), Str.mk #[50], Str.mk #[50]))),
  (Str.mk #[68, 78, 73, 78, 84], some (Str.mk #[65, 78, 73, 78, 84], [2]), some ((Str.mk #[68, 78, 73, 78, 84], some (Str.mk #[65, 78, 73, 78, 84]), Str.mk #[50], Str.mk #[50]))),
  (Str.mk #[73, 68, 78, 73, 78, 84], some (Str.mk #[78, 73, 78, 84], [2]), some ((Str.mk #[73, 68, 78, 73, 78, 84], some (Str.mk #[78, 73, 78, 84]), Str.mk #[50], Str.mk #[48]))),
  (Str.mk #[73, 65, 66, 83], some (Str.mk #[65, 66, 83], [0]), some ((Str.mk #[73, 65, 66, 83], some (Str.mk #[65, 66, 83]), Str.mk #[48], Str.mk #[48]))),
  (Str.mk #[68, 65, 66, 83], some (Str.mk #[65, 66, 83], [2]), some ((Str.mk #[68, 65, 66, 83], some (Str.mk #[65, 66, 83]), Str.mk #[50], Str.mk #[50]))),
  (Str.mk #[67, 65, 66, 83], some (Str.mk #[65, 66, 83], [3]), some ((Str.mk #[67, 65, 66, 83], some (Str.mk #[65, 66, 83]), Str.mk #[51], Str.mk #[49]))),
  (Str.mk #[65, 77, 79, 68], some (Str.mk #[77, 79, 68], [1]), some ((Str.mk #[65, 77, 79, 68], some (Str.mk #[77, 79, 68]), Str.mk #[49], Str.mk #[49]))),
  (Str.mk #[68, 77, 79, 68], some (Str.mk #[77, 79, 68], [2]), some ((Str.mk #[68, 77, 79, 68], some (Str.mk #[77, 79, 68]), Str.mk #[50], Str.mk #[50]))),
  (Str.mk #[73, 83, 73, 71, 78], some (Str.mk #[83, 73, 71, 78], [0]), some ((Str.mk #[73, 83, 73, 71, 78], some (Str.mk #[83, 73, 71, 78]), Str.mk #[48], Str.mk #[48]))),
  (Str.mk #[68, 83, 73, 71, 78], some (Str.mk #[83, 73, 71, 78], [2]), some ((Str.mk #[68, 83, 73, 71, 78], some (Str.mk #[83, 73, 71, 78]), Str.mk #[50], Str.mk #[50]))),
  (Str.mk #[73, 68, 73, 77], some (Str.mk #[68, 73, 77], [0]), some ((Str.mk #[73, 68, 73, 77], some (Str.mk #[68, 73, 77]), Str.mk #[48], Str.mk #[48])))]
def combo2 : List (Str × Option (Str × List Int) × Option RowT) := [
  (Str.mk #[68, 68, 73, 77], some (Str.mk #[68, 73, 77], [2]), some ((Str.mk #[68, 68, 73, 77], some (Str.mk #[68, 73, 77]), Str.mk #[50], Str.mk #[50]))),
  (Str.mk #[68, 80, 82, 79, 68], some (Str.mk #[68, 80, 82, 79, 68], [1]), some ((Str.mk #[68, 80, 82, 79, 68], some (Str.mk #[68, 80, 82, 79, 68]), Str.mk #[49], Str.mk #[50]))),
  (Str.mk #[77, 65, 88, 48], some (Str.mk #[77, 65, 88], [0]), some ((Str.mk #[77, 65, 88, 48], some (Str.mk #[77, 65, 88]), Str.mk #[48], Str.mk #[48]))),
  (Str.mk #[65, 77, 65, 88, 49], some (Str.mk #[77, 65, 88], [1]), some ((Str.mk #[65, 77, 65, 88, 49], some (Str.mk #[77, 65, 88]), Str.mk #[49], Str.mk #[49]))),
  (Str.mk #[68, 77, 65, 88, 49], some (Str.mk #[77, 65, 88], [2]), some ((Str.mk #[68, 77, 65, 88, 49], some (Str.mk #[77, 65, 88]), Str.mk #[50], Str.mk #[50]))),
  (Str.mk #[77, 73, 78, 48], some (Str.mk #[77, 73, 78], [0]), some ((Str.mk #[77, 73, 78, 48], some (Str.mk #[77, 73, 78]), Str.mk #[48], Str.mk #[48]))),
  (Str.mk #[65, 77, 73, 78, 49], some (Str.mk #[77, 73, 78], [1]), some ((Str.mk #[65, 77, 73, 78, 49], some (Str.mk #[77, 73, 78]), Str.mk #[49], Str.mk #[49]))),
  (Str.mk #[68, 77, 73, 78, 49], some (Str.mk #[77, 73, 78], [2]), some ((Str.mk #[68, 77, 73, 78, 49], some (Str.mk #[77, 73, 78]), Str.mk #[50], Str.mk #[50]))),
  (Str.mk #[76, 69, 78], some (Str.mk #[76, 69, 78], [5]), some ((Str.mk #[76, 69, 78], some (Str.mk #[76, 69, 78]), Str.mk #[53], Str.mk #[48]))),
  (Str.mk #[73, 78, 68, 69, 88], some (Str.mk #[73, 78, 68, 69, 88], [5]), some ((Str.mk #[73, 78, 68, 69, 88], some (Str.mk #[73, 78, 68, 69, 88]), Str.mk #[53], Str.mk #[48]))),
  (Str.mk #[65, 73, 77, 65, 71], some (Str.mk #[65, 73, 77, 65, 71], [3]), some ((Str.mk #[65, 73, 77, 65, 71], some (Str.mk #[65, 73, 77, 65, 71]), Str.mk #[51], Str.mk #[49]))),
  (Str.mk #[67, 79, 78, 74, 71], some (Str.mk #[67, 79, 78, 74, 71], [3]), some ((Str.mk #[67, 79, 78, 74, 71], some (Str.mk #[67, 79, 78, 74, 71]), Str.mk #[51], Str.mk #[51]))),
  (Str.mk #[68, 83, 81, 82, 84], some (Str.mk #[83, 81, 82, 84], [2]), some ((Str.mk #[68, 83, 81, 82, 84], some (Str.mk #[83, 81, 82, 84]), Str.mk #[50], Str.mk #[50]))),
  (Str.mk #[67, 83, 81, 82, 84], some (Str.mk #[83, 81, 82, 84], [3]), some ((Str.mk #[67, 83, 81, 82, 84], some (Str.mk #[83, 81, 82, 84]), Str.mk #[51], Str.mk #[51]))),
  (Str.mk #[68, 69, 88, 80], some (Str.mk #[69, 88, 80], [2]), some ((Str.mk #[68, 69, 88, 80], some (Str.mk #[69, 88, 80]), Str.mk #[50], Str.mk #[50]))),
  (Str.mk #[67, 69, 88, 80], some (Str.mk #[69, 88, 80], [3]), some ((Str.mk #[67, 69, 88, 80], some (Str.mk #[69, 88, 80]), Str.mk #[51], Str.mk #[51]))),
  (Str.mk #[65, 76, 79, 71], some (Str.mk #[76, 79, 71], [1]), some ((Str.mk #[65, 76, 79, 71], some (Str.mk #[76, 79, 71]), Str.mk #[49], Str.mk #[49]))),
  (Str.mk #[68, 76, 79, 71], some (Str.mk #[76, 79, 71], [2]), some ((Str.mk #[68, 76, 79, 71], some (Str.mk #[76, 79, 71]), Str.mk #[50], Str.mk #[50]))),
  (Str.mk #[67, 76, 79, 71], some (Str.mk #[76, 79, 71], [3]), some ((Str.mk #[67, 76, 79, 71], some (Str.mk #[76, 79, 71]), Str.mk #[51], Str.mk #[51]))),
  (Str.mk #[65, 76, 79, 71, 49, 48], some (Str.mk #[76, 79, 71, 49, 48], [1]), some ((Str.mk #[65, 76, 79, 71, 49, 48], some (Str.mk #[76, 79, 71, 49, 48]), Str.mk #[49], Str.mk #[49]))),
  (Str.mk #[68, 76, 79, 71, 49, 48], some (Str.mk #[76, 79, 71, 49, 48], [2]), some ((Str.mk #[68, 76, 79, 71, 49, 48], some (Str.mk #[76, 79, 71, 49, 48]), Str.mk #[50], Str.mk #[50]))),
  (Str.mk #[68, 83, 73, 78], some (Str.mk #[83, 73, 78], [2]), some ((Str.mk #[68, 83, 73, 78], some (Str.mk #[83, 73, 78]), Str.mk #[50], Str.mk #[50]))),
  (Str.mk #[67, 83, 73, 78], some (Str.mk #[83, 73, 78], [3]), some ((Str.mk #[67, 83, 73, 78], some (Str.mk #[83, 73, 78]), Str.mk #[51], Str.mk #[51]))),
  (Str.mk #[68, 67, 79, 83], some (Str.mk #[67, 79, 83], [2]), some ((Str.mk #[68, 67, 79, 83], some (Str.mk #[67, 79, 83]), Str.mk #[50], Str.mk #[50])))]
def combo3 : List (Str × Option (Str × List Int) × Option RowT) := [
  (Str.mk #[67, 67, 79, 83], some (Str.mk #[67, 79, 83], [3]), some ((Str.mk #[67, 67, 79, 83], some (Str.mk #[67, 79, 83]), Str.mk #[51], Str.mk #[51]))),
  (Str.mk #[68, 84, 65, 78], some (Str.mk #[84, 65, 78], [2]), some ((Str.mk #[68, 84, 65, 78], some (Str.mk #[84, 65, 78]), Str.mk #[50], Str.mk #[50]))),
  (Str.mk #[68, 65, 83, 73, 78], some (Str.mk #[65, 83, 73, 78], [2]), some ((Str.mk #[68, 65, 83, 73, 78], some (Str.mk #[65, 83, 73, 78]), Str.mk #[50], Str.mk #[50]))),
  (Str.mk #[68, 65, 67, 79, 83], some (Str.mk #[65, 67, 79, 83], [2]), some ((Str.mk #[68, 65, 67, 79, 83], some (Str.mk #[65, 67, 79, 83]), Str.mk #[50], Str.mk #[50]))),
  (Str.mk #[68, 65, 84, 65, 78], some (Str.mk #[65, 84, 65, 78], [2]), some ((Str.mk #[68, 65, 84, 65, 78], some (Str.mk #[65, 84, 65, 78]), Str.mk #[50], Str.mk #[50]))),
  (Str.mk #[68, 65, 84, 65, 78, 50], some (Str.mk #[65, 84, 65, 78, 50], [2]), some ((Str.mk #[68, 65, 84, 65, 78, 50], some (Str.mk #[65, 84, 65, 78, 50]), Str.mk #[50], Str.mk #[50]))),
  (Str.mk #[68, 83, 73, 78, 72], some (Str.mk #[83, 73, 78, 72], [2]), some ((Str.mk #[68, 83, 73, 78, 72], some (Str.mk #[83, 73, 78, 72]), Str.mk #[50], Str.mk #[50]))),
  (Str.mk #[68, 67, 79, 83, 72], some (Str.mk #[67, 79, 83, 72], [2]), some ((Str.mk #[68, 67, 79, 83, 72], some (Str.mk #[67, 79, 83, 72]), Str.mk #[50], Str.mk #[50]))),
  (Str.mk #[68, 84, 65, 78, 72], some (Str.mk #[84, 65, 78, 72], [2]), some ((Str.mk #[68, 84, 65, 78, 72], some (Str.mk #[84, 65, 78, 72]), Str.mk #[50], Str.mk #[50]))),
  (Str.mk #[76, 71, 69], some (Str.mk #[76, 71, 69], [5]), some ((Str.mk #[76, 71, 69], some (Str.mk #[76, 71, 69]), Str.mk #[53], Str.mk #[52]))),
  (Str.mk #[76, 71, 84], some (Str.mk #[76, 71, 84], [5]), some ((Str.mk #[76, 71, 84], some (Str.mk #[76, 71, 84]), Str.mk #[53], Str.mk #[52]))),
  (Str.mk #[76, 76, 69], some (Str.mk #[76, 76, 69], [5]), some ((Str.mk #[76, 76, 69], some (Str.mk #[76, 76, 69]), Str.mk #[53], Str.mk #[52]))),
  (Str.mk #[76, 76, 84], some (Str.mk #[76, 76, 84], [5]), some ((Str.mk #[76, 76, 84], some (Str.mk #[76, 76, 84]), Str.mk #[53], Str.mk #[52]))),
  (Str.mk #[88], none, none),
  (Str.mk #[], none, none),
  (Str.mk #[77, 65, 88, 50], none, none),
  (Str.mk #[115, 105, 110], none, none),
  (Str.mk #[67, 84, 65, 78], none, none),
  (Str.mk #[65, 77, 65, 88], none, none),
  (Str.mk #[68, 67, 77, 80, 76, 88], none, none),
  (Str.mk #[67, 76, 79, 71, 49, 48], none, none)]
def combo : List (Str × Option (Str × List Int) × Option RowT) := combo0 ++ combo1 ++ combo2 ++ combo3
theorem combo0_ok : ∀ c ∈ combo0, opLet c.1 = c.2.1 ∧ rowTab.find? (fun q => q.1 == c.1) = c.2.2 := by decide +kernel
theorem combo1_ok : ∀ c ∈ combo1, opLet c.1 = c.2.1 ∧ rowTab.find? (fun q => q.1 == c.1) = c.2.2 := by decide +kernel
theorem combo2_ok : ∀ c ∈ combo2, opLet c.1 = c.2.1 ∧ rowTab.find? (fun q => q.1 == c.1) = c.2.2 := by decide +kernel
theorem combo3_ok : ∀ c ∈ combo3, opLet c.1 = c.2.1 ∧ rowTab.find? (fun q => q.1 == c.1) = c.2.2 := by decide +kernel

theorem combo_ok : ∀ c ∈ combo, opLet c.1 = c.2.1 ∧ rowTab.find? (fun q => q.1 == c.1) = c.2.2 := by
  intro c h
  simp only [combo, List.mem_append] at h
  rcases h with ((h | h) | h) | h
  · exact combo0_ok c h
  · exact combo1_ok c h
  · exact combo2_ok c h
  · exact combo3_ok c h
theorem heads_eq : rowStrs.map (fun r => (cut 58 r.cps.toList).headD []) = rowTab.map (fun p => p.1.cps.toList) := by decide +kernel
theorem head_cut (r : Str) : (headOf r).cps.toList = (cut 58 r.cps.toList).headD [] := by
  have := split_cut r 58
  rw [← this]
  unfold headOf
  show _ = ((Txt.split r (Str.ofString ":")).map (·.cps.toList)).headD []
  cases Txt.split r (Str.ofString ":") <;> rfl
theorem names_eq : namesAll.map (·.cps.toList) = combo.map (fun c => c.1.cps.toList) := by
  unfold namesAll
  rw [List.map_append, List.map_map]
  have e : rowStrs.map ((fun x : Str => x.cps.toList) ∘ headOf) = rowTab.map (fun p => p.1.cps.toList) := by
    rw [← heads_eq]; exact List.map_congr_left fun r _ => head_cut r
  rw [e]; decide +kernel
theorem name_combo {nm : Str} (h : nm ∈ namesAll) : ∃ c ∈ combo, c.1 = nm := by
  have k : nm.cps.toList ∈ namesAll.map (·.cps.toList) := List.mem_map.mpr ⟨nm, h, rfl⟩
  rw [names_eq] at k
  obtain ⟨c, hc, e⟩ := List.mem_map.mp k
  exact ⟨c, hc, str_list e⟩
/-- choose's answer by what the name stands for -/
def chooseQ (o : Option (Str × List Int)) (ks : List Int) : Option (Str × List Int × Int) := match o with
  | none => none
  | some p => if countOk p.1 ks.length = true ∧ (∀ v ∈ ks, v = ks.headD 0 ∧ v ∈ p.2) ∧ ¬ ((p.1 == Str.ofString "CMPLX") = true ∧ ks.headD 0 = 3 ∧ (ks.length : Int) = 2) then some (p.1, wantedP p.1 ks, resultP p.1 (ks.headD 0)) else none
def inL (k : Int) (lt : Str) : Bool := lt.cps.toList.any fun c => (c : Int) == 48 + k
def rowQ (op lt rs nm : Str) (ks : List Int) : Option (Str × List Int × Int) :=
  if countsP op ks.length = true ∧ ks = (List.replicate (ks.length : Int).toNat [ks.getD (Int.toNat 0) 0]).flatten ∧ inL (ks.getD (Int.toNat 0) 0) lt = true then
    if (nm == Str.ofString "CMPLX") = true then if ks = [3, 3] then none else some (nm, if ks = [3] then [3] else (List.replicate (ks.length : Int).toNat [1]).flatten, 3)
    else if (nm == Str.ofString "ABS") = true ∧ (if (rs == Str.ofString "=") = true then ks.getD (Int.toNat 0) 0 else intOf rs) = 3 then some (op, ks, 1) else some (op, ks, if (rs == Str.ofString "=") = true then ks.getD (Int.toNat 0) 0 else intOf rs)
  else none
def dueQ (f : Option RowT) (nm : Str) (ks : List Int) : Option (Str × List Int × Int) := match f with
  | none => none
  | some p => rowQ (p.2.1.getD nm) p.2.2.1 p.2.2.2 nm ks
theorem in_rows : ∀ p ∈ rowTab, ∀ k : Fin 6, (Builtin.Str.occurrences p.2.2.1 (Str.mk #[48 + k.val]) 0 p.2.2.1.length 1).isEmpty = !inL (k.val : Int) p.2.2.1 := by decide +kernel
theorem digit : ∀ k : Fin 6, Str.ofString (toString (k.val : Int)) = Str.mk #[48 + k.val] := by decide +kernel
structure KindsOk (ks : List Int) : Prop where
  len : (ks.length : Int) ≤ 4
  bd : ∀ v ∈ ks, 0 ≤ v ∧ v ≤ 5
theorem kind0 {ks : List Int} (h : KindsOk ks) : ∃ k : Fin 6, ks.getD (Int.toNat 0) 0 = (k.val : Int) := by
  have q : 0 ≤ ks.getD (Int.toNat 0) 0 ∧ ks.getD (Int.toNat 0) 0 ≤ 5 := by
    cases ks with
    | nil => exact ⟨by decide, by decide⟩
    | cons a l => exact h.bd a (.head _)
  exact ⟨⟨(ks.getD (Int.toNat 0) 0).toNat, by omega⟩, by show _ = (((ks.getD (Int.toNat 0) 0).toNat : Nat) : Int); omega⟩
theorem due_q {nm : Str} {ks : List Int} (h : KindsOk ks) : dueP nm ks = dueQ (rowTab.find? fun q => q.1 == nm) nm ks := by
  unfold dueP dueQ
  cases e : rowTab.find? (fun q => q.1 == nm) with
  | none => rfl
  | some p =>
    have hp := List.mem_of_find?_eq_some e
    obtain ⟨k, hk⟩ := kind0 h
    show dueRow _ _ _ _ _ = rowQ _ _ _ _ _
    unfold dueRow rowQ
    have i := in_rows p hp k
    rw [← digit k] at i
    rw [← hk] at i
    rw [i]
    simp only [Bool.not_eq_eq_eq_not, Bool.not_false]
theorem choose_q (nm : Str) (ks : List Int) : chooseP nm ks = chooseQ (opLet nm) ks := rfl

theorem law0_ok : ∀ c ∈ combo0, ∀ n : Fin 5, ∀ k : Fin 6, chooseQ c.2.1 (List.replicate n.val (k.val : Int)) = dueQ c.2.2 c.1 (List.replicate n.val (k.val : Int)) := by decide +kernel
theorem law1_ok : ∀ c ∈ combo1, ∀ n : Fin 5, ∀ k : Fin 6, chooseQ c.2.1 (List.replicate n.val (k.val : Int)) = dueQ c.2.2 c.1 (List.replicate n.val (k.val : Int)) := by decide +kernel
theorem law2_ok : ∀ c ∈ combo2, ∀ n : Fin 5, ∀ k : Fin 6, chooseQ c.2.1 (List.replicate n.val (k.val : Int)) = dueQ c.2.2 c.1 (List.replicate n.val (k.val : Int)) := by decide +kernel
theorem law3_ok : ∀ c ∈ combo3, ∀ n : Fin 5, ∀ k : Fin 6, chooseQ c.2.1 (List.replicate n.val (k.val : Int)) = dueQ c.2.2 c.1 (List.replicate n.val (k.val : Int)) := by decide +kernel

theorem law_ok : ∀ c ∈ combo, ∀ n : Fin 5, ∀ k : Fin 6, chooseQ c.2.1 (List.replicate n.val (k.val : Int)) = dueQ c.2.2 c.1 (List.replicate n.val (k.val : Int)) := by
  intro c h
  simp only [combo, List.mem_append] at h
  rcases h with ((h | h) | h) | h
  · exact law0_ok c h
  · exact law1_ok c h
  · exact law2_ok c h
  · exact law3_ok c h
theorem rep_flat (n : Nat) (k : Int) : (List.replicate n [k]).flatten = List.replicate n k := by
  induction n with
  | zero => rfl
  | succ n ih => rw [List.replicate_succ, List.flatten_cons, ih, List.replicate_succ]; rfl
theorem law_eq {nm : Str} {ks : List Int} (h : nm ∈ namesAll) (hk : KindsOk ks) : chooseP nm ks = dueP nm ks := by
  obtain ⟨c, hc, rfl⟩ := name_combo h
  obtain ⟨h1, h2⟩ := combo_ok c hc
  obtain ⟨k, h0⟩ := kind0 hk
  rw [due_q hk, choose_q, h1, h2]
  by_cases e : ks = List.replicate ks.length (k.val : Int)
  · have hn : ks.length < 5 := by have := hk.len; omega
    have := law_ok c hc ⟨ks.length, hn⟩ k
    rw [e]; exact this
  · have hd0 : ks.headD 0 = (k.val : Int) := by rw [← h0, getD0]
    have a : chooseQ c.2.1 ks = none := by
      unfold chooseQ
      cases c.2.1 with
      | none => rfl
      | some p => exact if_neg fun q => e (List.eq_replicate_iff.mpr ⟨rfl, fun v hv => hd0 ▸ (q.2.1 v hv).1⟩)
    have b : dueQ c.2.2 c.1 ks = none := by
      unfold dueQ
      cases c.2.2 with
      | none => rfl
      | some p =>
        refine if_neg fun q => e ?_
        have z := q.2.1
        rw [h0, rep_flat] at z
        exact z
    rw [a, b]


theorem is_rows : ∀ c ∈ combo, isP c.1 = !(noneL.any fun x => x == c.1) := by decide +kernel
theorem may_rows : ∀ c ∈ combo, mayP c.1 = (!(noneL.any fun x => x == c.1) && !(barWords.any fun x => x == c.1)) := by decide +kernel
theorem is_name {nm : Str} (h : nm ∈ namesAll) : isP nm = !(noneL.any fun x => x == nm) := by obtain ⟨c, hc, rfl⟩ := name_combo h; exact is_rows c hc
theorem may_name {nm : Str} (h : nm ∈ namesAll) : mayP nm = (!(noneL.any fun x => x == nm) && !(barWords.any fun x => x == nm)) := by obtain ⟨c, hc, rfl⟩ := name_combo h; exact may_rows c hc
theorem lay_rows : ∀ c ∈ combo, ∀ p, c.2.1 = some p → (PyData.str p.1).canLay0 = true := by
  have k : ∀ c ∈ combo, (match c.2.1 with | some p => (PyData.str p.1).canLay0 | none => true) = true := by decide +kernel
  intro c hc p e
  have := k c hc
  rw [e] at this
  exact this
theorem lay_name {nm : Str} {ks : List Int} {op : Str} {w : List Int} {r : Int} (h : nm ∈ namesAll) (e : chooseP nm ks = some (op, w, r)) : (PyData.str op).canLay0 = true := by
  obtain ⟨c, hc, rfl⟩ := name_combo h
  obtain ⟨h1, _⟩ := combo_ok c hc
  rw [choose_q, h1] at e
  unfold chooseQ at e
  cases q : c.2.1 with
  | none => rw [q] at e; cases e
  | some p =>
    rw [q] at e
    have := lay_rows c hc p q
    simp only at e
    split at e
    · cases e; exact this
    · cases e


end Mine

namespace Mine
open PySem PySem.W PyProof.Rows PySem.Calls


theorem ct_due_no {w : World} {p : Program} {loose : List Str} {mean : ExcName → Option Value} {mg mb : Str → Option Value} {nm : Str} {tn : Tok} {ks : List Int} {vs : List Value} {c : Nat} {kl : Addr} {news : List (Addr × Obj)}
  {dp un : Nat} {gd : Option (List Code)} {cn : Str} {cs : Scope} {a : Addr} {ccd : Value} {cl : List (Str × Addr)} {outer : List Env} {A₀ : Around} {base h₀ : Heap} {L : Addr} {m : Str → Option Value} {s : Shared} {Q E : Value → Shared → Prop} :
  Below A₀ base outer h₀ → Fr h₀ L s.heap m → (hd.heap_39 w.params).In h₀ → Top p loose mean mg mb h₀ → cs.kind = .function → dp < 330 → un < 60 → News h₀ L s.heap ((kl, listOf vs.toArray c) :: news) → IntsAre vs ks → KindsOk ks → nm ∈ namesAll → chooseP nm ks = none →
  (∀ h' tk', Fr h₀ L h' m → News h₀ L h' ((kl, listOf vs.toArray c) :: news) → Q .none { s with heap := h', toks := tk' }) →
  wpAny (model Challenge.rw_no0227_01.row.prog w) (ktrTop dp un gd cn cs L a ccd cl outer) (call (.ref 144) [.str nm tn, .ref kl]) Q E s :=
  fun B F X T hk hdp hun N hi ok hn e h => ct_due B F X T hk hdp hun N hi ok.len ok.bd (fun h' tk' _ F' N' => h h' tk' F' N') fun T' op t1 r t2 wl o ws w h' tk' e' => by
    rw [← law_eq hn ok, e] at e'; cases e'
theorem ct_due_yes {w : World} {p : Program} {loose : List Str} {mean : ExcName → Option Value} {mg mb : Str → Option Value} {nm : Str} {tn : Tok} {ks : List Int} {vs : List Value} {c : Nat} {kl : Addr} {news : List (Addr × Obj)} {op : Str} {w' : List Int} {r : Int}
  {dp un : Nat} {gd : Option (List Code)} {cn : Str} {cs : Scope} {a : Addr} {ccd : Value} {cl : List (Str × Addr)} {outer : List Env} {A₀ : Around} {base h₀ : Heap} {L : Addr} {m : Str → Option Value} {s : Shared} {Q E : Value → Shared → Prop} :
  Below A₀ base outer h₀ → Fr h₀ L s.heap m → (hd.heap_39 w.params).In h₀ → Top p loose mean mg mb h₀ → cs.kind = .function → dp < 330 → un < 60 → News h₀ L s.heap ((kl, listOf vs.toArray c) :: news) → IntsAre vs ks → KindsOk ks → nm ∈ namesAll → chooseP nm ks = some (op, w', r) →
  (∀ T t1 t2 wl o ws h' tk', ListObj o ws → IntsAre ws w' → Fr h₀ L h' m → News h₀ L h' ((T, tripleObj op t1 wl r t2) :: (wl, o) :: (kl, listOf vs.toArray c) :: news) → Q (.ref T) { s with heap := h', toks := tk' }) →
  wpAny (model Challenge.rw_no0227_01.row.prog w) (ktrTop dp un gd cn cs L a ccd cl outer) (call (.ref 144) [.str nm tn, .ref kl]) Q E s :=
  fun B F X T hk hdp hun N hi ok hn e h => ct_due B F X T hk hdp hun N hi ok.len ok.bd (fun h' tk' e' => by rw [← law_eq hn ok, e] at e'; cases e') fun T' op2 t1 r2 t2 wl o ws w2 h' tk' e' lo ia F' N' => by
    rw [← law_eq hn ok, e] at e'; cases e'
    exact h T' t1 t2 wl o ws h' tk' lo ia F' N'
section
variable {prog : Program} {w : World} {A : Around} {E : Value → Shared → Prop} {s : Shared} {h₀ : Heap} {L : Addr} {m : Str → Option Value} {news : List (Addr × Obj)}
theorem canlay_ints : ∀ w : List Int, PyData.canLayAll0 (w.map PyData.int) = true
  | [] => rfl
  | _ :: r => by show (true && _) = true; rw [canlay_ints r]; rfl
theorem depth_ints : ∀ w : List Int, PyData.depthAll (w.map PyData.int) = 0
  | [] => rfl
  | _ :: r => by show max 0 (PyData.depthAll (r.map PyData.int)) = 0; rw [depth_ints r]; rfl
theorem triple_reads {T wl : Addr} {op : Str} {r : Int} {t1 t2 : Tok} {o : Obj} {ws : List Value} {ks : List Int} (N : News h₀ L s.heap news) (m1 : (T, tripleObj op t1 wl r t2) ∈ news) (m2 : (wl, o) ∈ news) (lo : ListObj o ws) (ia : IntsAre ws ks) :
    ∃ as, Reads s.heap (.ref T) (.tuple [.str op, .list (ks.map .int), .int r]) as := by
  obtain ⟨hc, n, hd⟩ := lo
  exact ⟨_, .tuple (N _ m1).1 rfl rfl (.cons (.str _ _) (.cons (.list (N _ m2).1 hc hd (ia.reads _)) (.cons (.int _ _) .nil)))⟩
theorem triple_ne {T1 T2 l1 l2 : Addr} {op : Str} {r : Int} {a1 a2 b1 b2 : Tok} {o1 o2 : Obj} {ws1 ws2 : List Value} {ks : List Int} {Q : Value → Shared → Prop} (N : News h₀ L s.heap news)
    (m1 : (T1, tripleObj op a1 l1 r b1) ∈ news) (m3 : (T2, tripleObj op a2 l2 r b2) ∈ news) (m2 : (l1, o1) ∈ news) (m4 : (l2, o2) ∈ news) (lo1 : ListObj o1 ws1) (lo2 : ListObj o2 ws2) (i1 : IntsAre ws1 ks) (i2 : IntsAre ws2 ks)
    (lay : (PyData.str op).canLay0 = true) (hu : A.units + 4 < cLine) (h : Q (.bool false) s) : wpAny (model prog w) A (compareOp .NotEq (.ref T1) (.ref T2)) Q E s := by
  obtain ⟨as, ra⟩ := triple_reads N m1 m2 lo1 i1
  obtain ⟨bs, rb⟩ := triple_reads N m3 m4 lo2 i2
  have la : (PyData.tuple [.str op, .list (ks.map .int), .int r]).canLay0 = true := by
    show ((PyData.str op).canLay0 && (PyData.canLayAll0 (ks.map .int) && (true && true))) = true
    rw [lay, canlay_ints]; rfl
  have ld : (PyData.tuple [.str op, .list (ks.map .int), .int r]).depth ≤ 3 := by
    show max 0 (max (PyData.depthAll (ks.map .int) + 1) (max 0 0)) + 1 ≤ 3
    rw [depth_ints]; decide
  have hm := Nat.min_le_left (PyData.tuple [.str op, .list (ks.map .int), .int r]).depth (PyData.tuple [.str op, .list (ks.map .int), .int r]).depth
  refine SeqAt.compareNe_reads ra rb la la (by omega) ?_
  rw [SeqAt.eqv_refl _ la]; exact h
theorem mul_kinds {D : Addr} {k n : Int} {tt u : Tok} {c : Nat} {Q : Value → Shared → Prop} (F : Fr h₀ L s.heap m) (N : News h₀ L s.heap news) (hm : (D, listOf #[Value.int k tt] c) ∈ news) (h0 : 0 ≤ n) (h4 : n ≤ 4) (hk : 0 ≤ k ∧ k ≤ 5)
    (h : ∀ D' vs ks h', IntsAre vs ks → KindsOk ks → Fr h₀ L h' m → News h₀ L h' ((D', listOf vs.toArray 0) :: news) → (∀ p ∈ news, p.1 < D') → Q (.ref D') { s with heap := h' }) :
    wpAny (model prog w) A (binaryOp .Mult (.ref D) (.int n u)) Q E s := by
  refine KM.mul (vs := [Value.int k tt]) (ns := [k]) F N ⟨_, (N _ hm).1, rfl, _, rfl⟩ (IntsAre.cons _ _ IntsAre.nil) (by omega) (by omega) (by show 1 * n.toNat ≤ 2 ^ 24; omega) fun D' h' F' N' l1 i1 _ _ _ _ _ => h D' _ _ h' i1 ⟨?_, ?_⟩ F' N' l1
  · rw [rep_flat, List.length_replicate]; omega
  · intro v hv
    rw [rep_flat] at hv
    rw [List.eq_of_mem_replicate hv]; exact hk
theorem setL_some : ∀ (l : List Value) (j : Nat) (v : Value), j < l.length → ki_setL l j v = some (l.set j v)
  | [], _, _, h => absurd h (Nat.not_lt_zero _)
  | _ :: _, 0, _, _ => rfl
  | x :: r, j + 1, v, h => by
    unfold ki_setL
    rw [setL_some r j v (Nat.lt_of_succ_lt_succ h)]; rfl
theorem set_last {D : Addr} {k x : Int} {tt u : Tok} {vs : List Value} {ks : List Int} {c : Nat} {news' : List (Addr × Obj)} {Q : Unit → Shared → Prop} (F : Fr h₀ L s.heap m) (N : News h₀ L s.heap news)
    (U : Upd D (listOf vs.toArray c) (listOf (vs.set (vs.length - 1) (.int x u)).toArray c) news news') (hi : IntsAre vs ks) (ok : KindsOk ks) (ne : ks ≠ []) (hk : k = -1) (hx : 0 ≤ x ∧ x ≤ 5)
    (h : ∀ h', IntsAre (vs.set (vs.length - 1) (.int x u)) (ks.set (vs.length - 1) x) → KindsOk (ks.set (vs.length - 1) x) → Fr h₀ L h' m → News h₀ L h' news' → Q () { s with heap := h' }) :
    wpAny (model prog w) A (setItem (.ref D) (.int k tt) (.int x u)) Q E s := by
  subst hk
  have hl : vs.length = ks.length := hi.length
  have hp : 0 < vs.length := by rw [hl]; exact List.length_pos_iff.mpr ne
  refine ki_setNeg F N (by decide) (by decide) (j := vs.length - 1) ?_ (q := vs.set (vs.length - 1) (.int x u)) ?_ U fun h' F' N' => h h' (ints_set hi _) ⟨?_, ?_⟩ F' N'
  · rw [PySem.seqIndex_neg (by decide) (by rw [List.size_toArray]; omega), List.size_toArray]
    exact congrArg some (by omega)
  · exact setL_some _ _ _ (by show vs.length - 1 < vs.length; omega)
  · rw [List.length_set]; exact ok.len
  · intro v hv
    rcases List.mem_or_eq_of_mem_set hv with q | rfl
    · exact ok.bd v q
    · exact hx
theorem item_123 {D : Addr} {a b d u : Tok} {c : Nat} {i : Int} {value slice : Expr} {Q : Value → Shared → Prop} (N : News h₀ L s.heap news) (hm : (D, listOf #[Value.int 1 a, Value.int 2 b, Value.int 3 d] c) ∈ news) (h0 : 0 ≤ i) (h1 : i < 3)
    (h : ∀ v t, 1 ≤ v → v ≤ 3 → Q (.int v t) s)
    (hs' : subscripted slice false (.ref D) (.int i u) = operate [.ref D, .int i u] (getItem (.ref D) (.int i u)) := by with_unfolding_all rfl) :
    wpAny (model prog w) A (subscriptTail value slice (.ref D) (.int i u)) Q E s := by
  obtain ⟨j, rfl⟩ := Int.eq_ofNat_of_zero_le h0
  have hj : j < 3 := by omega
  have go : ∀ x, (#[Value.int 1 a, Value.int 2 b, Value.int 3 d] : Array Value)[(j : Int).toNat]? = some x → Q x s → wpAny (model prog w) A (subscriptTail value slice (.ref D) (.int (j : Int) u)) Q E s := fun x hx hq =>
    tail_any (Heap.IsList.typeIs ⟨_, (N _ hm).1, rfl, _, rfl⟩) slot_list_getitem.lookup (wpAny_getItem_list ⟨_, (N _ hm).1, rfl, _, rfl⟩ h0 (by omega) hx hq) hs'
  match j, hj with
  | 0, _ => exact go _ rfl (h 1 a (by decide) (by decide))
  | 1, _ => exact go _ rfl (h 2 b (by decide) (by decide))
  | 2, _ => exact go _ rfl (h 3 d (by decide) (by decide))
theorem notin_none {nm : Str} {t : Tok} {Q : Value → Shared → Prop} (F : Fr h₀ L s.heap m) (X : (hd.heap_39 w.params).In h₀) (h : Q (.bool (!(noneL.any fun x => x == nm))) s) : wpAny (model prog w) A (compareOp .NotIn (.str nm t) (.ref 123)) Q E s := by
  obtain ⟨ws, hw, o, ho, r⟩ := none_list X
  exact notin_list_strs ⟨o, F.keep _ _ ho, r⟩ hw h
theorem notin_bar {nm : Str} {t : Tok} {D : Addr} {l : List (Str × Tok)} {c : Nat} {Q : Value → Shared → Prop} (N : News h₀ L s.heap news) (hm : (D, listOf (strValues l).toArray c) ∈ news) (e : l.map (·.1) = barWords) (h : Q (.bool (!(barWords.any fun x => x == nm))) s) : wpAny (model prog w) A (compareOp .NotIn (.str nm t) (.ref D)) Q E s :=
  notin_list_strs ⟨_, (N _ hm).1, rfl, _, rfl⟩ (e ▸ strsAre_of_values l) h
end
theorem fm_ok (x : Int) {k : Int} (h : 0 < k) : 0 ≤ x.fmod k ∧ x.fmod k < k := by
  rw [Int.fmod_eq_emod_of_nonneg _ (by omega)]
  exact ⟨Int.emod_nonneg _ (by omega), Int.emod_lt_of_pos _ h⟩
def CutPost (I : Shared → Prop) (Q : Flow → Shared → Prop) (f : Flow) (s : Shared) : Prop := match f with
  | .next => I s
  | f => Q f s


theorem execs_cut {M : Model} {A : Around} {E : Value → Shared → Prop} {env : Env} {rest : List Stmt} {I : Shared → Prop} {Q : Flow → Shared → Prop} {s : Shared} (l : List Stmt)
    (h : wpAny M A (execs l env) (CutPost I Q) E s) (h2 : ∀ s', I s' → wpAny M A (execs rest env) Q E s') : wpAny M A (execs (l ++ rest) env) Q E s := by
  intro Γ p hΓ
  have := h Γ p hΓ
  clear h
  induction l generalizing p s with
  | nil => exact h2 _ this Γ p hΓ
  | cons st l ih =>
    show Sem.wp _ _ _ _ _ _ _
    rw [execs_cons, Sem.wp_bind'] at this
    rw [List.cons_append, execs_cons, Sem.wp_bind']
    refine Sem.wp_mono M Γ _ (fun f p' s' h' => ?_) (fun _ _ _ h' => h') _ _ this
    cases f with
    | next => exact ih p' h'
    | _ => exact h'


end Mine

namespace Mine
open PySem PySem.W PyProof.Rows PySem.Calls


theorem ct_isv {w : World} {p : Program} {loose : List Str} {mean : ExcName → Option Value} {mg mb : Str → Option Value} {nm : Str} {tn : Tok} {news : List (Addr × Obj)} {b : Bool}
  {dp un : Nat} {gd : Option (List Code)} {cn : Str} {cs : Scope} {a : Addr} {ccd : Value} {cl : List (Str × Addr)} {outer : List Env} {A₀ : Around} {base h₀ : Heap} {L : Addr} {m : Str → Option Value} {s : Shared} {Q E : Value → Shared → Prop} :
  Below A₀ base outer h₀ → Fr h₀ L s.heap m → (hd.heap_39 w.params).In h₀ → Top p loose mean mg mb h₀ → cs.kind = .function → dp < 330 → un < 60 → News h₀ L s.heap news → nm ∈ namesAll → (noneL.any fun x => x == nm) = b →
  (∀ h' tk', Fr h₀ L h' m → News h₀ L h' news → Q (.bool (!b)) { s with heap := h', toks := tk' }) →
  wpAny (model Challenge.rw_no0227_01.row.prog w) (ktrTop dp un gd cn cs L a ccd cl outer) (call (.ref 75) [.str nm tn]) Q E s :=
  fun B F X T hk hdp hun N hn hb h => ct_is B F X T hk hdp hun N fun b' h' tk' e F' N' => by
    rw [is_name hn, hb] at e; subst e; exact h h' tk' F' N'
theorem ct_mayf {w : World} {p : Program} {loose : List Str} {mean : ExcName → Option Value} {mg mb : Str → Option Value} {nm : Str} {tn : Tok} {news : List (Addr × Obj)}
  {dp un : Nat} {gd : Option (List Code)} {cn : Str} {cs : Scope} {a : Addr} {ccd : Value} {cl : List (Str × Addr)} {outer : List Env} {A₀ : Around} {base h₀ : Heap} {L : Addr} {m : Str → Option Value} {s : Shared} {Q E : Value → Shared → Prop} :
  Below A₀ base outer h₀ → Fr h₀ L s.heap m → (hd.heap_39 w.params).In h₀ → Top p loose mean mg mb h₀ → cs.kind = .function → dp < 330 → un < 60 → News h₀ L s.heap news → nm ∈ namesAll → (noneL.any fun x => x == nm) = true →
  (∀ h' tk', Fr h₀ L h' m → News h₀ L h' news → Q (.bool false) { s with heap := h', toks := tk' }) →
  wpAny (model Challenge.rw_no0227_01.row.prog w) (ktrTop dp un gd cn cs L a ccd cl outer) (call (.ref 82) [.str nm tn]) Q E s :=
  fun B F X T hk hdp hun N hn hb h => ct_may B F X T hk hdp hun N fun b' h' tk' e F' N' => by
    rw [may_name hn, hb] at e
    have e' : false = b' := e
    subst e'; exact h h' tk' F' N'
theorem ct_mayt {w : World} {p : Program} {loose : List Str} {mean : ExcName → Option Value} {mg mb : Str → Option Value} {nm : Str} {tn : Tok} {news : List (Addr × Obj)}
  {dp un : Nat} {gd : Option (List Code)} {cn : Str} {cs : Scope} {a : Addr} {ccd : Value} {cl : List (Str × Addr)} {outer : List Env} {A₀ : Around} {base h₀ : Heap} {L : Addr} {m : Str → Option Value} {s : Shared} {Q E : Value → Shared → Prop} :
  Below A₀ base outer h₀ → Fr h₀ L s.heap m → (hd.heap_39 w.params).In h₀ → Top p loose mean mg mb h₀ → cs.kind = .function → dp < 330 → un < 60 → News h₀ L s.heap news → nm ∈ namesAll → (noneL.any fun x => x == nm) = false →
  (∀ h' tk', (barWords.any fun x => x == nm) = false → Fr h₀ L h' m → News h₀ L h' news → Q (.bool true) { s with heap := h', toks := tk' }) →
  (∀ h' tk', (barWords.any fun x => x == nm) = true → Fr h₀ L h' m → News h₀ L h' news → Q (.bool false) { s with heap := h', toks := tk' }) →
  wpAny (model Challenge.rw_no0227_01.row.prog w) (ktrTop dp un gd cn cs L a ccd cl outer) (call (.ref 82) [.str nm tn]) Q E s :=
  fun B F X T hk hdp hun N hn hb h1 h2 => ct_may B F X T hk hdp hun N fun b' h' tk' e F' N' => by
    rw [may_name hn, hb] at e
    cases q : (barWords.any fun x => x == nm) with
    | true =>
      rw [q] at e
      have e' : false = b' := e
      subst e'; exact h2 h' tk' q F' N'
    | false =>
      rw [q] at e
      have e' : true = b' := e
      subst e'; exact h1 h' tk' q F' N'


/-- the law's frame when the kinds are drawn -/
def kindMap (nm : Str) (tn : Tok) (D Dn Dm : Addr) (u : Str → Option Value) : Str → Option Value := fun y => if y = Str.ofString "kinds" then some (.ref D) else if y = Str.ofString "name" then some (.str nm tn) else lawMap Dn Dm u y
theorem kindMap_self {nm : Str} {tn : Tok} {D Dn Dm : Addr} {m : Str → Option Value} (h0 : m (Str.ofString "kinds") = some (.ref D)) (h3 : m (Str.ofString "name") = some (.str nm tn)) (h1 : m (Str.ofString "names") = some (.ref Dn)) (h2 : m (Str.ofString "numbers") = some (.ref Dm)) : kindMap nm tn D Dn Dm m = m := by
  funext y; unfold kindMap; split
  · rename_i e; rw [e, h0]
  · split
    · rename_i e; rw [e, h3]
    · rw [lawMap_self h1 h2]
def KindsI (s : Shared) (h₀ : Heap) (L : Addr) (nm : Str) (Dn Dm : Addr) (base : List (Addr × Obj)) (s' : Shared) : Prop :=
  ∃ h' tk' D vs ks u tn, s' = { s with heap := h', toks := tk' } ∧ IntsAre vs ks ∧ KindsOk ks ∧ (∀ p ∈ base, p.1 < D) ∧ Fr h₀ L h' (kindMap nm tn D Dn Dm u) ∧ News h₀ L h' ((D, listOf vs.toArray 0) :: base)
def wayMap (fi : Int) (ti : Tok) (wa : Int) (ta : Tok) (m : Str → Option Value) : Str → Option Value := fun y => if y = Str.ofString "first" then some (.int fi ti) else if y = Str.ofString "way" then some (.int wa ta) else m y
theorem wayMap_self {fi wa : Int} {ti ta : Tok} {m : Str → Option Value} (h0 : m (Str.ofString "first") = some (.int fi ti)) (h3 : m (Str.ofString "way") = some (.int wa ta)) : wayMap fi ti wa ta m = m := by
  funext y; unfold wayMap; split
  · rename_i e; rw [e, h0]
  · split
    · rename_i e; rw [e, h3]
    · rfl
def KindsJ (s : Shared) (h₀ : Heap) (L : Addr) (nm : Str) (Dn Dm : Addr) (base : List (Addr × Obj)) (s' : Shared) : Prop :=
  ∃ h' tk' D vs ks u tn fi ti wa ta, s' = { s with heap := h', toks := tk' } ∧ IntsAre vs ks ∧ KindsOk ks ∧ (0 ≤ fi ∧ fi ≤ 5) ∧ (∀ p ∈ base, p.1 < D) ∧ Fr h₀ L h' (wayMap fi ti wa ta (kindMap nm tn D Dn Dm u)) ∧ News h₀ L h' ((D, listOf vs.toArray 0) :: base)
section
variable {prog : Program} {w : World} {A : Around} {E : Value → Shared → Prop} {s : Shared} {h₀ : Heap} {env : Env} {L : Addr} {m : Str → Option Value} {Q : Flow → Shared → Prop} {nm : Str} {Dn Dm D I : Addr} {base : List (Addr × Obj)}
theorem kinds_cut {tn0 : Tok} {a b : Stmt} {rest : List Stmt} (_F : Fr h₀ env.locals s.heap m) (_N : News h₀ env.locals s.heap base) (_h3 : m (Str.ofString "name") = some (.str nm tn0)) (_h1 : m (Str.ofString "names") = some (.ref Dn)) (_h2 : m (Str.ofString "numbers") = some (.ref Dm))
    (h : wpAny (model prog w) A (execs [a, b] env) (CutPost (KindsJ s h₀ env.locals nm Dn Dm base) Q) E s)
    (h2 : ∀ D vs ks fi ti wa ta tn u h' tk', IntsAre vs ks → KindsOk ks → (0 ≤ fi ∧ fi ≤ 5) → (∀ p ∈ base, p.1 < D) → Fr h₀ env.locals h' (wayMap fi ti wa ta (kindMap nm tn D Dn Dm u)) → News h₀ env.locals h' ((D, listOf vs.toArray 0) :: base) → wpAny (model prog w) A (execs rest env) Q E { s with heap := h', toks := tk' }) :
    wpAny (model prog w) A (execs (a :: b :: rest) env) Q E s :=
  execs_cut [a, b] h fun s' i => by
    obtain ⟨h', tk', D, vs, ks, u, tn, fi, ti, wa, ta, rfl, i1, ok, hf, lt, F, N⟩ := i
    exact h2 D vs ks fi ti wa ta tn u h' tk' i1 ok hf lt F N
theorem kinds_cut2 {tn0 : Tok} {D0 : Addr} {big : List (Addr × Obj)} {a : Stmt} {rest : List Stmt} (_F : Fr h₀ env.locals s.heap m) (_h0 : m (Str.ofString "kinds") = some (.ref D0)) (_lt : ∀ p ∈ base, p.1 < D0) (_N : News h₀ env.locals s.heap big) (_h3 : m (Str.ofString "name") = some (.str nm tn0)) (_h1 : m (Str.ofString "names") = some (.ref Dn)) (_h2 : m (Str.ofString "numbers") = some (.ref Dm))
    (h : wpAny (model prog w) A (execs [a] env) (CutPost (KindsI s h₀ env.locals nm Dn Dm base) Q) E s)
    (h2 : ∀ D vs ks u tn h' tk', IntsAre vs ks → KindsOk ks → (∀ p ∈ base, p.1 < D) → Fr h₀ env.locals h' (kindMap nm tn D Dn Dm u) → News h₀ env.locals h' ((D, listOf vs.toArray 0) :: base) → wpAny (model prog w) A (execs rest env) Q E { s with heap := h', toks := tk' }) :
    wpAny (model prog w) A (execs (a :: rest) env) Q E s :=
  execs_cut [a] h fun s' i => by
    obtain ⟨h', tk', D, vs, ks, u, tn, rfl, i1, ok, lt, F, N⟩ := i
    exact h2 D vs ks u tn h' tk' i1 ok lt F N
theorem kinds_endJ {big : List (Addr × Obj)} {m' : Str → Option Value} {h' : Heap} {tk' : Nat} {vs : List Value} {ks : List Int} {tn ti ta : Tok} {fi wa : Int} (F : Fr h₀ L h' m') (h0 : m' (Str.ofString "kinds") = some (.ref D)) (h3 : m' (Str.ofString "name") = some (.str nm tn)) (h1 : m' (Str.ofString "names") = some (.ref Dn)) (h2 : m' (Str.ofString "numbers") = some (.ref Dm)) (h4 : m' (Str.ofString "first") = some (.int fi ti)) (h5 : m' (Str.ofString "way") = some (.int wa ta)) (hf : 0 ≤ fi ∧ fi ≤ 5)
    (N : News h₀ L h' ((D, listOf vs.toArray 0) :: base)) (i : IntsAre vs ks) (ok : KindsOk ks) (lt : ∀ p ∈ big, p.1 < D) (sub : ∀ p ∈ base, p ∈ big) :
    CutPost (KindsJ s h₀ L nm Dn Dm base) Q .next { s with heap := h', toks := tk' } :=
  ⟨h', tk', D, vs, ks, m', tn, fi, ti, wa, ta, rfl, i, ok, hf, fun p hp => lt p (sub p hp), by rw [kindMap_self h0 h3 h1 h2, wayMap_self h4 h5]; exact F, N⟩
theorem kinds_end {big : List (Addr × Obj)} {m' : Str → Option Value} {h' : Heap} {tk' : Nat} {vs : List Value} {ks : List Int} {tn : Tok} (F : Fr h₀ L h' m') (h0 : m' (Str.ofString "kinds") = some (.ref D)) (h3 : m' (Str.ofString "name") = some (.str nm tn)) (h1 : m' (Str.ofString "names") = some (.ref Dn)) (h2 : m' (Str.ofString "numbers") = some (.ref Dm))
    (N : News h₀ L h' ((D, listOf vs.toArray 0) :: base)) (i : IntsAre vs ks) (ok : KindsOk ks) (lt : ∀ p ∈ big, p.1 < D) (sub : ∀ p ∈ base, p ∈ big) :
    CutPost (KindsI s h₀ L nm Dn Dm base) Q .next { s with heap := h', toks := tk' } :=
  ⟨h', tk', D, vs, ks, m', tn, rfl, i, ok, fun p hp => lt p (sub p hp), by rw [kindMap_self h0 h3 h1 h2]; exact F, N⟩
theorem law_back {o : Obj} {news : List (Addr × Obj)} {s₁ : Shared} {m' : Str → Option Value} {h' : Heap} {tk : Nat} (hI : ∀ p ∈ news, p.1 < I) (F : Fr h₀ L h' m') (N : News h₀ L h' ((I, o) :: news)) (h1 : m' (Str.ofString "names") = some (.ref Dn)) (h2 : m' (Str.ofString "numbers") = some (.ref Dm)) :
    UnrEndW h₀ L s₁ [(I, o)] (fun m' n' => n' = news ∧ m' (Str.ofString "names") = some (.ref Dn) ∧ m' (Str.ofString "numbers") = some (.ref Dm)) { s₁ with heap := h', toks := tk } :=
  ⟨h', tk, m', news, rfl, F, N, fun p hp q hq e => by
    rw [List.mem_singleton.mp hq] at e
    have := hI p hp
    rw [e] at this
    exact absurd this (Nat.lt_irrefl _), rfl, h1, h2⟩
theorem list_kinds {vs : List Value} {ks : List Int} {c : Nat} {Q : Value → Shared → Prop} (F : Fr h₀ L s.heap m) (N : News h₀ L s.heap base) (hm : (D, listOf vs.toArray c) ∈ base) (hi : IntsAre vs ks) (ok : KindsOk ks)
    (h : ∀ D' c' h', Fr h₀ L h' m → News h₀ L h' ((D', listOf vs.toArray c') :: base) → (∀ q ∈ base, q.1 < D') → Q (.ref D') { s with heap := h' }) : wpAny (model prog w) A (call (.type "list") [.ref D]) Q E s :=
  list_copyK F N ⟨_, (N _ hm).1, rfl, _, rfl⟩ h (by have := ok.len; rw [List.size_toArray, hi.length]; have : (5 : Nat) ≤ sizeLine := by decide
                                                    omega)
theorem notin_none2 {t : Tok} {Q : Value → Shared → Prop} (F : Fr h₀ L s.heap m) (X : (hd.heap_39 w.params).In h₀) (hf : (noneL.any fun x => x == nm) = false → Q (.bool true) s) (ht : (noneL.any fun x => x == nm) = true → Q (.bool false) s) : wpAny (model prog w) A (compareOp .NotIn (.str nm t) (.ref 123)) Q E s := by
  refine notin_none F X ?_
  cases q : (noneL.any fun x => x == nm) with
  | true => exact ht q
  | false => exact hf q
theorem notin_bar2 {t : Tok} {l : List (Str × Tok)} {c : Nat} {b : Bool} {Q : Value → Shared → Prop} (N : News h₀ L s.heap base) (hm : (D, listOf (strValues l).toArray c) ∈ base) (e : l.map (·.1) = barWords) (hb : (barWords.any fun x => x == nm) = b) (h : Q (.bool (!b)) s) : wpAny (model prog w) A (compareOp .NotIn (.str nm t) (.ref D)) Q E s := by
  refine notin_bar N hm e ?_
  rw [hb]; exact h
end


end Mine

namespace Mine
open PySem PySem.W PyProof.Rows PySem.Calls
local macro_rules | `(tactic| walk_at "call ref") => `(tactic| (k_here; (with_reducible show wpAny _ _ (call (Value.ref 115) _) _ _ _); k_dflt (refine' ct_gtext ?B ?F ?X ?T ?hk ?hd ?hu ?N ?_; (case B => k_asm); (case F => k_asm); (case X => k_asm); (case N => k_asm); (case T => k_asm); (case hk => first | exact rfl | assumption); (case hd => first | omega | ((try simp only [depth_under_make, depth_under_kw, depth_in1, depth_deeper, depth_caller]); (try dsimp only [ktrTop]); omega)); (case hu => first | omega | ((try simp only [units_in1, units_deeper, Around.mark_units, units_caller]); (try dsimp only [ktrTop]); omega)); all_goals intros)))

local macro_rules | `(tactic| walk_at "call ref") => `(tactic| (k_here; (with_reducible show wpAny _ _ (call (Value.ref 122) _) _ _ _); k_dflt (refine' ct_stext ?B ?F ?X ?T ?hk ?hd ?hu ?N ?_; (case B => k_asm); (case F => k_asm); (case X => k_asm); (case N => k_asm); (case T => k_asm); (case hk => first | exact rfl | assumption); (case hd => first | omega | ((try simp only [depth_under_make, depth_under_kw, depth_in1, depth_deeper, depth_caller]); (try dsimp only [ktrTop]); omega)); (case hu => first | omega | ((try simp only [units_in1, units_deeper, Around.mark_units, units_caller]); (try dsimp only [ktrTop]); omega)); all_goals intros)))


local macro_rules | `(tactic| walk_at "binaryOp Add str str") => `(tactic| (k_here; (with_reducible show wpAny _ _ (binaryOp Operator.Add (Value.str _ _) (Value.str _ _)) _ _ _); k_dflt (refine' add_len ?a ?_; (case a => first | exact sz1 | exact sz2)); intro _ _))
local macro_rules | `(tactic| walk_at "call builtin:str.split") => `(tactic| (k_here; (with_reducible show wpAny _ _ (call (Value.builtin "str.split") [Value.str (_ ++ _ ++ _) _, Value.str _ _]) _ _ _); k_dflt (refine' KSpl.split1 ?a ?b ?c ?_ ?d; (case a => k_asm); (case b => k_asm); (case c => decide); (case d => exact sz3)); intro D' l' h' k' e' a' F' N' l1; (try k_lt l1); replace e' := e'.trans split_text))
local macro_rules | `(tactic| walk_at "eval ListComp") => `(tactic| (k_here; (with_reducible refine' names_comp ?F0 ?hh ?hclos ?hcell ?hkind ?hnames ?hx ?_ ?hs); (case F0 => k_asm); (case hh => with_unfolding_all rfl); (case hclos => with_unfolding_all rfl); (case hcell => decide); (case hkind => with_unfolding_all rfl); (case hnames => decide); (case hx => with_unfolding_all rfl); (case hs => intro _; with_unfolding_all rfl)))


local macro_rules | `(tactic| walk_at "NamesAt") => `(tactic| (k_here; k_dflt (refine' ⟨_, _, _, _, rfl, ?a, ?b, ?f, ?n, ?_, ?_⟩; (case f => k_asm); (case n => k_asm); (case a => k_mem); (case b => assumption)); all_goals intros))


local macro_rules | `(tactic| walk_at "eval Name") => `(tactic| (k_here; (with_reducible show wpAny _ _ (eval (Expr.Name _ _) (compEnvC _ _ _ _)) _ _ _); (rename Fr _ _ _ _ => kF9); k_dflt (refine' ldVarK kF9.ns ?a ?_; (case a => assumption))))
local macro_rules | `(tactic| walk_at "call builtin:str.split") => `(tactic| (k_here; (with_reducible show wpAny _ _ (call (Value.builtin "str.split") [Value.str _ _, Value.str (Str.ofString ":") _]) _ _ _); k_dflt (refine' split_elem ?a ?_; (case a => assumption)); intros))
local macro_rules | `(tactic| walk_at "subscriptTail") => `(tactic| (k_here; (with_reducible show wpAny _ _ (subscriptTail _ _ (Value.ref _) (Value.int 0 _)) _ _ _); k_dflt (refine' item_elem ?a ?b ?_; (case a => assumption); (case b => assumption)); intros))
local macro_rules | `(tactic| walk_at "binaryOp Add ref ref") => `(tactic| (k_here; (with_reducible show wpAny _ _ (binaryOp _ (Value.ref _) (Value.ref 123)) _ _ _); k_dflt (refine' add_names ?F ?X ?N ?a ?b ?_; (case F => k_asm); (case X => k_asm); (case N => k_asm); (case a => k_mem); (case b => assumption)); intros))


theorem carried_head {r y : Str} {t : Tok} {l : List (Str × Tok)} (e : l.map (·.1) = Txt.split r (Str.ofString ":")) (h : (l.map (·.1))[Int.toNat 0]? = some y) : Carried (.str y t) (.str (headOf r)) := by
  have k : headOf r = y := by
    rw [e] at h
    unfold headOf
    cases q : Txt.split r (Str.ofString ":") with
    | nil => rw [q] at h; cases h
    | cons a b => rw [q] at h; exact Option.some.inj h
  rw [k]; exact .str _ _
local macro_rules | `(tactic| walk_at "exec For Name Call cons nil") => `(tactic| (k_here; (rename Fr _ _ _ _ => lF'); (with_unfolding_all refine' For_turns lF' ?_; k_whole)))
local macro_rules | `(tactic| walk_at "pyIter ref") => `(tactic| (k_here; k_dflt (refine' law_loop ?hk ?hh ?F ?N ?h1 ?h2 ?hr ?_ ?_; (case F => k_asm); (case N => k_asm); (case hr => assumption); (case hk => exact List.length_take_le _ _); (case hh => exact rfl); (case h1 => exact rfl); (case h2 => exact rfl)); all_goals intros))

local macro_rules | `(tactic| walk_at "call ref") => `(tactic| (k_here; (with_reducible show wpAny _ _ (call (Value.ref 130) _) _ _ _); k_dflt (refine' ct_btext ?B ?F ?X ?T ?hk ?hd ?hu ?N  ?_; (case B => k_asm); (case F => k_asm); (case X => k_asm); (case T => k_asm); (case hk => first | exact rfl | assumption); (case hd => first | decide | omega | ((try simp only [depth_under_make, depth_under_kw, depth_in1, depth_deeper, depth_caller]); (try dsimp only [ktrTop]); omega)); (case hu => first | decide | omega | ((try simp only [units_in1, units_deeper, Around.mark_units, units_caller]); (try dsimp only [ktrTop]); omega)); (case N => k_asm);  all_goals intros)))

local macro_rules | `(tactic| walk_at "call ref") => `(tactic| (k_here; (with_reducible show wpAny _ _ (call (Value.ref 75) [Value.str _ _]) _ _ _); k_dflt (refine' ct_isv ?B ?F ?X ?T ?hk ?hd ?hu ?N ?p1 ?p2 ?_; (case B => k_asm); (case F => k_asm); (case X => k_asm); (case T => k_asm); (case hk => first | exact rfl | assumption); (case hd => first | decide | omega | ((try simp only [depth_under_make, depth_under_kw, depth_in1, depth_deeper, depth_caller]); (try dsimp only [ktrTop]); omega)); (case hu => first | decide | omega | ((try simp only [units_in1, units_deeper, Around.mark_units, units_caller]); (try dsimp only [ktrTop]); omega)); (case N => k_asm); (case p1 => assumption); (case p2 => assumption); all_goals intros)))

local macro_rules | `(tactic| walk_at "call ref") => `(tactic| (k_here; (with_reducible show wpAny _ _ (call (Value.ref 82) [Value.str _ _]) _ _ _); k_dflt (refine' ct_mayf ?B ?F ?X ?T ?hk ?hd ?hu ?N ?p1 ?p2 ?_; (case B => k_asm); (case F => k_asm); (case X => k_asm); (case T => k_asm); (case hk => first | exact rfl | assumption); (case hd => first | decide | omega | ((try simp only [depth_under_make, depth_under_kw, depth_in1, depth_deeper, depth_caller]); (try dsimp only [ktrTop]); omega)); (case hu => first | decide | omega | ((try simp only [units_in1, units_deeper, Around.mark_units, units_caller]); (try dsimp only [ktrTop]); omega)); (case N => k_asm); (case p1 => assumption); (case p2 => assumption); all_goals intros)))

local macro_rules | `(tactic| walk_at "call ref") => `(tactic| (k_here; (with_reducible show wpAny _ _ (call (Value.ref 82) [Value.str _ _]) _ _ _); k_dflt (refine' ct_mayt ?B ?F ?X ?T ?hk ?hd ?hu ?N ?p1 ?p2 ?_ ?_; (case B => k_asm); (case F => k_asm); (case X => k_asm); (case T => k_asm); (case hk => first | exact rfl | assumption); (case hd => first | decide | omega | ((try simp only [depth_under_make, depth_under_kw, depth_in1, depth_deeper, depth_caller]); (try dsimp only [ktrTop]); omega)); (case hu => first | decide | omega | ((try simp only [units_in1, units_deeper, Around.mark_units, units_caller]); (try dsimp only [ktrTop]); omega)); (case N => k_asm); (case p1 => assumption); (case p2 => assumption); all_goals intros)))

local macro_rules | `(tactic| walk_at "call ref") => `(tactic| (k_here; (with_reducible show wpAny _ _ (call (Value.ref 151) [Value.str _ _, Value.ref _]) _ _ _); k_dflt (refine' ct_heard ?B ?F ?X ?T ?hk ?hd ?hu ?N ?p1 ?p2 ?_ ?_; (case B => k_asm); (case F => k_asm); (case X => k_asm); (case T => k_asm); (case hk => first | exact rfl | assumption); (case hd => first | decide | omega | ((try simp only [depth_under_make, depth_under_kw, depth_in1, depth_deeper, depth_caller]); (try dsimp only [ktrTop]); omega)); (case hu => first | decide | omega | ((try simp only [units_in1, units_deeper, Around.mark_units, units_caller]); (try dsimp only [ktrTop]); omega)); (case N => refine news_first (by k_asm) (by k_mem)); (case p1 => assumption); (case p2 => exact KindsOk.len (by assumption)); all_goals intros)))

local macro_rules | `(tactic| walk_at "call ref") => `(tactic| (k_here; (with_reducible show wpAny _ _ (call (Value.ref 144) [Value.str _ _, Value.ref _]) _ _ _); k_dflt (refine' ct_due_no ?B ?F ?X ?T ?hk ?hd ?hu ?N ?p1 ?p2 ?p3 ?p4 ?_; (case B => k_asm); (case F => k_asm); (case X => k_asm); (case T => k_asm); (case hk => first | exact rfl | assumption); (case hd => first | decide | omega | ((try simp only [depth_under_make, depth_under_kw, depth_in1, depth_deeper, depth_caller]); (try dsimp only [ktrTop]); omega)); (case hu => first | decide | omega | ((try simp only [units_in1, units_deeper, Around.mark_units, units_caller]); (try dsimp only [ktrTop]); omega)); (case N => refine news_first (by k_asm) (by k_mem)); (case p1 => assumption); (case p2 => assumption); (case p3 => assumption); (case p4 => assumption); all_goals intros)))

local macro_rules | `(tactic| walk_at "call ref") => `(tactic| (k_here; (with_reducible show wpAny _ _ (call (Value.ref 144) [Value.str _ _, Value.ref _]) _ _ _); k_dflt (refine' ct_due_yes ?B ?F ?X ?T ?hk ?hd ?hu ?N ?p1 ?p2 ?p3 ?p4 ?_; (case B => k_asm); (case F => k_asm); (case X => k_asm); (case T => k_asm); (case hk => first | exact rfl | assumption); (case hd => first | decide | omega | ((try simp only [depth_under_make, depth_under_kw, depth_in1, depth_deeper, depth_caller]); (try dsimp only [ktrTop]); omega)); (case hu => first | decide | omega | ((try simp only [units_in1, units_deeper, Around.mark_units, units_caller]); (try dsimp only [ktrTop]); omega)); (case N => refine news_first (by k_asm) (by k_mem)); (case p1 => assumption); (case p2 => assumption); (case p3 => assumption); (case p4 => assumption); all_goals intros)))


local macro_rules | `(tactic| walk_at "call builtin:str.split") => `(tactic| (k_here; (with_reducible show wpAny _ _ (call (Value.builtin "str.split") [Value.str barText _, Value.str _ _]) _ _ _); k_dflt (refine' KSpl.split1 ?a ?b ?c ?_ ?d; (case a => k_asm); (case b => k_asm); (case c => decide); (case d => exact sz_bar)); intro D' l' h' k' e' a' F' N' l1; (try k_lt l1); replace e' := e'.trans split_bar))
local macro_rules | `(tactic| walk_at "compareOp NotIn str ref") => `(tactic| (k_here; (with_reducible show wpAny _ _ (compareOp CmpOp.NotIn (Value.str _ _) (Value.ref 123)) _ _ _); k_dflt (refine' notin_none2 ?F ?X ?_ ?_; (case F => k_asm); (case X => k_asm)); all_goals intros))
local macro_rules | `(tactic| walk_at "compareOp NotIn str ref") => `(tactic| (k_here; (with_reducible show wpAny _ _ (compareOp CmpOp.NotIn (Value.str _ _) (Value.ref _)) _ _ _); k_dflt (refine' notin_bar2 ?N ?m ?e ?b ?_; (case N => k_asm); (case m => k_mem); (case e => assumption); (case b => assumption))))
local macro_rules | `(tactic| walk_at "compareOp NotEq ref ref") => `(tactic| (k_here; (with_reducible show wpAny _ _ (compareOp CmpOp.NotEq (Value.ref _) (Value.ref _)) _ _ _); k_dflt (refine' triple_ne ?N ?m1 ?m3 ?m2 ?m4 ?c1 ?c2 ?i1 ?i2 ?lay ?hu ?_; (case N => k_asm); (case m1 => k_mem); (case m3 => k_mem); (case m2 => k_mem); (case m4 => k_mem); (case c1 => first | assumption | exact ⟨rfl, _, rfl⟩); (case c2 => first | assumption | exact ⟨rfl, _, rfl⟩); (case i1 => assumption); (case i2 => assumption); (case lay => exact lay_name (by assumption) (by assumption)); (case hu => exact Nat.le_of_ble_eq_true rfl))))
local macro_rules | `(tactic| walk_at "binaryOp Mult ref int") => `(tactic| (k_here; (with_reducible show wpAny _ _ (binaryOp Operator.Mult (Value.ref _) (Value.int _ _)) _ _ _); k_dflt (refine' mul_kinds ?F ?N ?m ?a ?b ?c ?_; (case F => k_asm); (case N => k_asm); (case m => k_mem); (case a => first | exact (fm_ok _ (by decide)).1 | omega); (case b => first | exact Int.le_of_lt_add_one (fm_ok _ (by decide)).2 | omega); (case c => first | assumption | exact ⟨(fm_ok _ (by decide)).1, Int.le_of_lt_add_one (fm_ok _ (by decide)).2⟩)); intro D' vs' ks' h' i' o' F' N' l1; have l2 := l1; (try k_lt l1)))
local macro_rules | `(tactic| walk_at "setItem ref int") => `(tactic| (k_here; (with_reducible show wpAny _ _ (setItem (Value.ref _) (Value.int _ _) (Value.int _ _)) _ _ _); k_dflt (refine' set_last ?F ?N ?U ?i ?o ?ne ?k ?x ?_; (case F => k_asm); (case N => k_asm); (case U => k_upd); (case i => assumption); (case o => assumption); (case ne => first | assumption | exact of_decide_eq_false (by assumption)); (case k => rfl); (case x => exact ⟨(fm_ok _ (by decide)).1, Int.le_of_lt_add_one (fm_ok _ (by decide)).2⟩)); intro h' i' o' F' N'))
local macro_rules | `(tactic| walk_at "call type:list") => `(tactic| (k_here; (with_reducible show wpAny _ _ (call (Value.type _) [Value.ref _]) _ _ _); k_dflt (refine' list_kinds ?F ?N ?m ?i ?o ?_; (case F => k_asm); (case N => k_asm); (case m => k_mem); (case i => assumption); (case o => assumption)); intro D' c' h' F' N' l1; (try k_lt l1)))
local macro_rules | `(tactic| walk_at "execs cons") => `(tactic| (k_here; (with_reducible show wpAny _ _ (execs (Stmt.If _ _ _ _ :: Stmt.Assign [Expr.Name (Str.ofString "handed") _] _ _ :: _) _) _ _ _); k_dflt (refine' kinds_cut2 ?F ?h0 ?lt ?N ?h3 ?h1 ?h2 ?_ ?_; (case F => k_asm); (case h0 => exact rfl); (case lt => assumption); (case N => k_asm); (case h3 => exact rfl); (case h1 => exact rfl); (case h2 => exact rfl)); all_goals intros))
local macro_rules | `(tactic| walk_at "execs cons") => `(tactic| (k_here; (with_reducible show wpAny _ _ (execs (Stmt.Assign [Expr.Name (Str.ofString "kinds") _] _ _ :: Stmt.If _ _ _ _ :: Stmt.If _ _ _ _ :: Stmt.Assign [Expr.Name (Str.ofString "handed") _] _ _ :: _) _) _ _ _); k_dflt (refine' kinds_cut ?F ?N ?h3 ?h1 ?h2 ?_ ?_; (case F => k_asm); (case N => k_asm); (case h3 => exact rfl); (case h1 => exact rfl); (case h2 => exact rfl)); all_goals intros))


section
variable {prog : Program} {w : World} {A : Around} {E : Value → Shared → Prop} {s : Shared} {h₀ : Heap} {L : Addr} {m : Str → Option Value} {news : List (Addr × Obj)}
theorem len_names {D : Addr} {zs : List Value} {c : Nat} {Q : Value → Shared → Prop} (N : News h₀ L s.heap news) (hm : (D, listOf zs.toArray c) ∈ news) (hs : NamesL zs) (h : Q (.int 93 (s.toks + 1)) { s with toks := s.toks + 1 + 1 }) :
    wpAny (model prog w) A (call (.builtin "len") [.ref D]) Q E s := by
  have hlen : namesAll.length = 93 := by decide +kernel
  have hz : zs.toArray.size = 93 := by rw [List.size_toArray, hs.out.length, hlen]
  refine Calls.call_len_list ⟨_, (N _ hm).1, rfl, _, rfl⟩ (by rw [hz]; decide) ?_
  rw [hz]; exact h
end
local macro_rules | `(tactic| walk_at "call builtin:len") => `(tactic| (k_here; (with_reducible show wpAny _ _ (call (Value.builtin "len") [Value.ref _]) _ _ _); k_dflt (refine' len_names ?N ?m ?s ?_; (case N => k_asm); (case m => k_mem); (case s => with_reducible assumption))))
local macro_rules | `(tactic| walk_at "subscriptTail Name BinOp ref int") => `(tactic| (k_here; (with_reducible show wpAny _ _ (subscriptTail _ _ (Value.ref _) (Value.int _ _)) _ _ _); k_dflt (refine' item_names ?N ?m ?s ?a ?b ?_; (case N => k_asm); (case m => k_mem); (case s => with_reducible assumption); (case a => exact (fm_ok _ (by decide)).1); (case b => exact (fm_ok _ (by decide)).2)); intros))
local macro_rules | `(tactic| walk_at "subscriptTail") => `(tactic| (k_here; (with_reducible show wpAny _ _ (subscriptTail _ _ (Value.ref _) (Value.int _ _)) _ _ _); k_dflt (refine' item_123 ?N ?m ?a ?b ?_; (case N => k_asm); (case m => k_mem); (case a => exact (fm_ok _ (by decide)).1); (case b => exact (fm_ok _ (by decide)).2)); intros))


theorem tl : PySem.Challenge.rw_no0227_01.Holds := hd (by
  k_go0
  (all_goals try k_fold)
  k_steps
  all_goals try exact carried_head (by assumption) (by assumption)
  all_goals try exact ⟨_, _, rfl, by assumption⟩
  intro at9 t9 u9 h9 tk9 I9 o9 hat0 hatk hI9 ho9 F9 N9
  rename_i w z1 z2 z3 z4 z5 z6 z7 z8 z9 z10 z11 z12 z13 KX z15 z16 z17 T z19 z20 z21 z22 z23 z24 z25 z26 z27 script z29 z30 z31 z32 z33 z34 z35 z36 z37 z38 z39 z40 z41 z42 z43 z44 z45 z46 K0 z48 z49 z50 z51 z52 z53 z54 z55 z56 z57 z58 z59 z60 z61 z62 z63 z64 z65 z66 z67 z68 z69 z70 z71 z72 z73 z74 z75 z76 z77 z78 Dn zs z81 hzs z83 z84 z85 z86 z87 z88 z89 z90 z91 z92 z93 z94 Dm ws z97 hws z99 z100 z101 z102 z103 z104 z105 z106 z107 z108 z109 z110 z111
  have hlen : at9 + 3 ≤ ((List.take 18 script ++ [31, 0, 3]).length : Int) := by
    rw [List.length_append]; show at9 + 3 ≤ (((List.take 18 script).length + 3 : Nat) : Int); omega
  have hlen2 : ((List.take 18 script ++ [31, 0, 3]).length : Int) ≤ 21 := by
    have q := List.length_take_le 18 script
    rw [List.length_append]; show (((List.take 18 script).length + 3 : Nat) : Int) ≤ 21; omega
  clear hatk
  try clear z111
  try clear z110
  try clear z109
  try clear z108
  try clear z107
  try clear z106
  try clear z105
  try clear z104
  try clear z103
  try clear z102
  try clear z101
  try clear z100
  try clear z99
  try clear z97
  try clear z94
  try clear z93
  try clear z92
  try clear z91
  try clear z90
  try clear z89
  try clear z88
  try clear z87
  try clear z86
  try clear z85
  try clear z84
  try clear z83
  try clear z81
  try clear z78
  try clear z77
  try clear z76
  try clear z75
  try clear z74
  try clear z73
  try clear z72
  try clear z71
  try clear z70
  try clear z69
  try clear z68
  try clear z67
  try clear z66
  try clear z65
  try clear z64
  try clear z63
  try clear z62
  try clear z61
  try clear z60
  try clear z59
  try clear z58
  try clear z57
  try clear z56
  try clear z55
  try clear z54
  try clear z53
  try clear z52
  try clear z51
  try clear z50
  try clear z49
  try clear z48
  try clear z46
  try clear z45
  try clear z44
  try clear z43
  try clear z42
  try clear z41
  try clear z40
  try clear z39
  try clear z38
  try clear z37
  try clear z36
  try clear z35
  try clear z34
  try clear z33
  try clear z32
  try clear z31
  try clear z30
  try clear z29
  try clear z27
  try clear z26
  try clear z25
  try clear z24
  try clear z23
  try clear z22
  try clear z21
  try clear z20
  try clear z19
  try clear z17
  try clear z16
  try clear z15
  try clear z13
  try clear z12
  try clear z11
  try clear z10
  try clear z9
  try clear z8
  try clear z7
  try clear z6
  try clear z5
  try clear z4
  try clear z3
  try clear z2
  try clear z1
  generalize List.take 18 script ++ [31, 0, 3] = nums at hws hlen hlen2
  k_steps
  all_goals try ((with_reducible show CutPost (KindsI _ _ _ _ _ _ _) _ _ _); (refine' kinds_end ?eF ?e0 ?e3 ?e1 ?e2 ?eN ?ei ?eo ?el ?es); (case eF => assumption); (case e0 => exact rfl); (case e3 => exact rfl); (case e1 => exact rfl); (case e2 => exact rfl); (case eN => exact cb_drop (by assumption) (by refine List.forall_mem_cons.mpr ⟨by k_mem, fun p hp => ?_⟩; repeat (first | exact hp | refine List.mem_cons_of_mem _ ?_ | refine List.mem_append_left _ ?_))); (case ei => assumption); (case eo => assumption); (case el => assumption); (case es => intro p hp; repeat (first | exact hp | refine List.mem_cons_of_mem _ ?_ | refine List.mem_append_left _ ?_)))
  all_goals try ((with_reducible show CutPost (KindsJ _ _ _ _ _ _ _) _ _ _); (refine' kinds_endJ ?eF ?e0 ?e3 ?e1 ?e2 ?e4 ?e5 ?e6 ?eN ?ei ?eo ?el ?es); (case eF => assumption); (case e0 => exact rfl); (case e3 => exact rfl); (case e1 => exact rfl); (case e2 => exact rfl); (case e4 => exact rfl); (case e5 => exact rfl); (case e6 => exact ⟨(fm_ok _ (by decide)).1, Int.le_of_lt_add_one (fm_ok _ (by decide)).2⟩); (case eN => exact cb_drop (by assumption) (by refine List.forall_mem_cons.mpr ⟨by k_mem, fun p hp => ?_⟩; repeat (first | exact hp | refine List.mem_cons_of_mem _ ?_ | refine List.mem_append_left _ ?_))); (case ei => assumption); (case eo => assumption); (case el => assumption); (case es => intro p hp; repeat (first | exact hp | refine List.mem_cons_of_mem _ ?_ | refine List.mem_append_left _ ?_)))
  all_goals try ((with_reducible show UnrEndW _ _ _ _ _ _); exact law_back hI9 (by assumption) (cb_drop (by assumption) (by intro p hp; repeat (first | exact hp | refine List.mem_cons_of_mem _ ?_ | refine List.mem_append_left _ ?_))) rfl rfl)
)

end Mine

open PySem PySem.W PyProof.Rows
theorem PySem.Challenge.cw_no0227_01_holds : PySem.Challenge.rw_no0227_01.Holds :=
  Mine.tl
