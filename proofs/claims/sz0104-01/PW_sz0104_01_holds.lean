import PyProof.Rows.All
import Wide.All
import OpenK.AllK
import Wide.FinOn
import Lean
import PySem.Challenge.RW_sz0104_01
open PySem PySem.W PySem.Calls PyProof.Rows PySem.Spec PyProof.V
set_option Elab.async false
set_option maxRecDepth 100000
set_option maxHeartbeats 0
set_option compiler.extract_closed false
namespace Mine
open_top hd for PySem.Challenge.rw_sz0104_01

def Ext (h h' : Heap) : Prop := ∀ b o, h.get? b = some o → h'.get? b = some o
theorem Ext.refl (h : Heap) : Ext h h := fun _ _ e => e
theorem Ext.trans {a b c : Heap} (x : Ext a b) (y : Ext b c) : Ext a c := fun p o e => y p o (x p o e)
theorem Ext.push (h : Heap) (o : Obj) : Ext h (h.push o) := fun _ _ e => Heap.get?_push_of_some _ e

structure Cx (w : World) (h : Heap) : Prop where
  k : (hd.heap_39 w.params).In h
  t : ∃ loose mg mb, TopRead hd.view_39 loose mg mb h

theorem Cx.keeps {w : World} {h h' : Heap} (C : Cx w h) (k : Ext h h') : Cx w h' :=
  ⟨C.k.keeps k, let ⟨l, a, b, t⟩ := C.t; ⟨l, a, b, ⟨t.g.keeps k, t.b.keeps k, t.nolimit.keeps k, t.builtins, t.free⟩⟩⟩
theorem Cx.nolimit {w : World} {h : Heap} (C : Cx w h) : h.NoLimit := let ⟨_, _, _, t⟩ := C.t; t.nolimit

/-- where an entry of the ledger stands -/
inductive At (a : Addr) (o : Obj) : List (Addr × Obj) → (Obj → List (Addr × Obj)) → Prop
  | head {r} : At a o ((a, o) :: r) (fun o' => (a, o') :: r)
  | tail {p r u} : At a o r u → At a o (p :: r) (fun o' => p :: u o')
theorem At.app {a : Addr} {o : Obj} {r : List (Addr × Obj)} {u : Obj → List (Addr × Obj)} (h : At a o r u) : ∀ own : List (Addr × Obj), At a o (own ++ r) (fun o' => own ++ u o')
  | [] => h
  | _ :: own => .tail (At.app h own)
theorem At.split {a : Addr} {o : Obj} : ∀ {l : List (Addr × Obj)} {u : Obj → List (Addr × Obj)}, At a o l u → ∃ pre post, l = pre ++ (a, o) :: post ∧ ∀ o', u o' = pre ++ (a, o') :: post
  | _, _, .head => ⟨[], _, rfl, fun _ => rfl⟩
  | _, _, .tail (p := p) r => let ⟨pre, post, e, f⟩ := r.split; ⟨p :: pre, post, by rw [e]; rfl, fun o' => by show p :: _ = _; rw [f]; rfl⟩
theorem At.mem {a : Addr} {o : Obj} {l : List (Addr × Obj)} {u : Obj → List (Addr × Obj)} (h : At a o l u) : (a, o) ∈ l := by
  obtain ⟨pre, post, rfl, _⟩ := h.split
  exact List.mem_append_right _ (.head _)

/-- a frame and its ledger over a base heap that stays -/
structure Fm (g : Heap) (L : Addr) (h : Heap) (m : Str → Option Value) (news : List (Addr × Obj)) : Prop where
  ns : h.Ns L m
  keep : Ext g h
  new : ∀ p ∈ news, h.get? p.1 = some p.2 ∧ p.1 ≠ L ∧ g.get? p.1 = none
  off : g.get? L = none
  sep : (news.map (·.1)).Nodup

namespace Fm
variable {g h h' : Heap} {L : Addr} {m m' : Str → Option Value} {news : List (Addr × Obj)} {a : Addr} {o o' : Obj}
theorem get (F : Fm g L h m news) (hm : (a, o) ∈ news) : h.get? a = some o := (F.new _ hm).1
theorem ext (F : Fm g L h m news) (k : Ext h h') : Fm g L h' m news :=
  ⟨F.ns.keeps k, F.keep.trans k, fun p hp => ⟨k _ _ (F.new p hp).1, (F.new p hp).2⟩, F.off, F.sep⟩
theorem extBut (F : Fm g L h m news) (hn : h'.Ns L m') (k : ∀ b o, b ≠ L → h.get? b = some o → h'.get? b = some o) : Fm g L h' m' news :=
  ⟨hn, fun b o e => k b o (fun q => by rw [q, F.off] at e; cases e) (F.keep b o e), fun p hp => ⟨k _ _ (F.new p hp).2.1 (F.new p hp).1, (F.new p hp).2⟩, F.off, F.sep⟩
theorem setL (F : Fm g L h m news) (hn : h'.Ns L m') (hs : Heap.SameBut L h h') : Fm g L h' m' news := F.extBut hn hs.extBut
theorem upd {u : Obj → List (Addr × Obj)} (F : Fm g L h m news) (U : At a o news u) (hs : Heap.SameBut a h h') (ho : h'.get? a = some o') : Fm g L h' m (u o') := by
  obtain ⟨pre, post, rfl, e⟩ := U.split
  rw [e]
  have ha := F.new (a, o) (List.mem_append_right _ (.head _))
  have hsep := F.sep
  simp only [List.map_append, List.map_cons, List.nodup_append, List.nodup_cons, List.mem_map, List.mem_cons, forall_exists_index, and_imp, ne_eq] at hsep
  have hpre : ∀ p ∈ pre, p.1 ≠ a := fun p hp q => hsep.2.2 p.1 p hp rfl a (.inl rfl) q
  have hpost : ∀ p ∈ post, p.1 ≠ a := fun p hp q => hsep.2.1.1 ⟨p, hp, q⟩
  refine ⟨F.ns.sameBut hs (Ne.symm ha.2.1), fun b o e => hs.extBut b o (fun q => by rw [q, ha.2.2] at e; cases e) (F.keep b o e), ?_, F.off, ?_⟩
  · intro p hp
    rcases List.mem_append.mp hp with hp | hp
    · have := F.new p (List.mem_append_left _ hp)
      exact ⟨(hs.2 _ (hpre p hp)).trans this.1, this.2⟩
    · rcases List.mem_cons.mp hp with rfl | hp
      · exact ⟨ho, ha.2⟩
      · have := F.new p (List.mem_append_right _ (.tail _ hp))
        exact ⟨(hs.2 _ (hpost p hp)).trans this.1, this.2⟩
  · have := F.sep
    simpa only [List.map_append, List.map_cons] using this
theorem push (F : Fm g L h m news) (o : Obj) (hf : o.isFreed = false := by rfl) : Fm g L (h.push o) m ((h.objs.size, o) :: news) := by
  have F' := F.ext (Ext.push h o)
  refine ⟨F'.ns, F'.keep, ?_, F.off, ?_⟩
  · intro p hp
    rcases List.mem_cons.mp hp with rfl | hp
    · refine ⟨Heap.get?_push_size _ hf, Nat.ne_of_gt F.ns.lt, ?_⟩
      cases hq : g.get? h.objs.size with
      | none => rfl
      | some o' => exact absurd (Heap.lt_size (F.keep _ _ hq)) (Nat.lt_irrefl _)
    · exact F'.new p hp
  · simp only [List.map_cons, List.nodup_cons]
    refine ⟨fun hm => ?_, F.sep⟩
    obtain ⟨p, hp, e⟩ := List.mem_map.mp hm
    exact absurd (Heap.lt_size (F.new p hp).1) (e ▸ Nat.lt_irrefl _)
theorem add (F : Fm g L h m news) (ho : h'.get? a = some o) (hn : h.get? a = none) (k : Ext h h') : Fm g L h' m ((a, o) :: news) := by
  have F' := F.ext k
  refine ⟨F'.ns, F'.keep, ?_, F.off, ?_⟩
  · intro p hp
    rcases List.mem_cons.mp hp with rfl | hp
    · refine ⟨ho, fun e => ?_, ?_⟩
      · obtain ⟨oL, _, _, hL, _⟩ := F.ns
        have hn' : h.get? a = none := hn
        have e' : a = L := e
        rw [e', hL] at hn'; cases hn'
      · cases hq : g.get? a with
        | none => rfl
        | some o' => have := F.keep _ _ hq; rw [hn] at this; cases this
    · exact F'.new p hp
  · simp only [List.map_cons, List.nodup_cons]
    refine ⟨fun hm => ?_, F.sep⟩
    obtain ⟨p, hp, e⟩ := List.mem_map.mp hm
    have := (F.new p hp).1
    rw [e, hn] at this; cases this
theorem right {own : List (Addr × Obj)} (F : Fm g L h m (own ++ news)) : Fm g L h m news :=
  ⟨F.ns, F.keep, fun p hp => F.new p (List.mem_append_right _ hp), F.off, by have := F.sep; rw [List.map_append] at this; exact (List.nodup_append.mp this).2.1⟩
theorem tail {p : Addr × Obj} (F : Fm g L h m (p :: news)) : Fm g L h m news := F.right (own := [p])
/-- all but the frame and some of the ledger goes to the base -/
theorem rebase (F : Fm g L h m news) : ∃ g', Ext g g' ∧ Fm g' L h m news ∧ ∀ b o, h.get? b = some o → b ≠ L → b ∉ news.map (·.1) → g'.get? b = some o := by
  refine ⟨hideAll h (L :: news.map (·.1)), fun b o e => ?_, ⟨F.ns, fun b o e => of_hideAll _ e, fun p hp => ⟨(F.new p hp).1, (F.new p hp).2.1, hideAll_none _ (List.mem_cons_of_mem _ (List.mem_map_of_mem hp))⟩, hideAll_none _ (.head _), F.sep⟩, fun b o e h1 h2 => hideAll_get _ e ?_⟩
  · refine hideAll_get _ (F.keep b o e) fun hm => ?_
    rcases List.mem_cons.mp hm with q | hm
    · rw [q, F.off] at e; cases e
    · obtain ⟨p, hp, q⟩ := List.mem_map.mp hm
      have := (F.new p hp).2.2
      rw [q, e] at this; cases this
  · intro hm
    rcases List.mem_cons.mp hm with q | hm
    · exact h1 q
    · exact h2 hm
/-- the ledger's first part goes to the base -/
theorem sink {imm muts : List (Addr × Obj)} (F : Fm g L h m (imm ++ muts)) : ∃ g', Ext g g' ∧ Fm g' L h m muts ∧ ∀ p ∈ imm, g'.get? p.1 = some p.2 := by
  obtain ⟨g', x, F', k⟩ := F.right.rebase
  refine ⟨g', x, F', fun p hp => ?_⟩
  have hp' := F.new p (List.mem_append_left _ hp)
  refine k _ _ hp'.1 hp'.2.1 fun hm => ?_
  have := F.sep
  rw [List.map_append, List.nodup_append] at this
  exact this.2.2 _ (List.mem_map_of_mem hp) _ hm rfl
/-- the ledger's first entry goes to the base -/
theorem sink1 (F : Fm g L h m ((a, o) :: news)) : ∃ g', Ext g g' ∧ Fm g' L h m news ∧ g'.get? a = some o := by
  obtain ⟨g', x, F', k⟩ := F.sink (imm := [(a, o)])
  exact ⟨g', x, F', k _ (.head _)⟩
theorem ofFr (F : Fr g L h m) : Fm g L h m [] := ⟨F.ns, F.keep, fun _ hp => (nomatch hp), by
  cases e : g.get? L with
  | none => rfl
  | some o => exact absurd (Heap.lt_size e) (Nat.not_lt.mpr F.above), List.nodup_nil⟩
theorem fresh (F : Fm g L h m ((a, o) :: news)) : g.get? a = none := (F.new _ (.head _)).2.2
end Fm

section
variable {prog : Program} {w : World} {A : Around} {s : Shared} {E : Value → Shared → Prop}

/-- entering a def without cells, from the heap at hand -/
theorem callP {name qual : Str} {params : Arguments} {body : List Stmt} {scope : Scope} {dV kV doc pm cdv ct oc : Value} {an od : Option Addr} {osl : Array (Option Value)} {f : Addr} {pos : List Value} {kw : List (Str × Value)} {binds : List (Str × Value)}
    {Q : Value → Shared → Prop}
    (C : Cx w s.heap)
    (ho : (hd.heap_39 w.params).lookup f = some ⟨oc, od, .func (fnOf name qual params body scope dV kV doc pm an cdv ct), osl⟩) (hcd : codeIn (hd.heap_39 w.params) cdv qual = true) (hroom : A.depth < recursionLimit)
    (hbind : BindsTo s (fnOf name qual params body scope dV kV doc pm an cdv ct) ⟨pos, kw⟩ binds) (hloc : ∀ y ∈ binds, scope.names.lookup y.1 = some .local)
    (hcell : ∀ x ∈ scope.names, x.2 ≠ .cell)
    (h : ∀ L h₁ tk, Fm s.heap L h₁ (fun y => binds.reverse.lookup y) [] →
      wpAny (model prog w) (A.deeper (envX qual scope L f cdv [])) (execs body (envX qual scope L f cdv []))
        (fun fl s' => Q (match fl with | .ret v => v | _ => .none) s') (fun _ _ => False) { s with heap := h₁, toks := tk })
    (hco : scope.isCoroutine = false := by rfl) (hgen : scope.isGenerator = false := by rfl) (hk : scope.kind = .function := by rfl) :
    wpAny (model prog w) A (call (.ref f) pos kw) Q E s := by
  refine wpAny_call ?_
  refine codeAny_call_def (fd := fnX name qual params body scope [] dV kV doc pm an cdv ct) (body := body) (binds := binds) hroom (C.k _ _ ho) rfl C.nolimit (codeRec_of C.k hcd) rfl hbind hcell hloc (fun h₁ hns hk₁ => ?_) hco hgen hk
  exact wpAny_mono (h s.heap.objs.size h₁ _ (.ofFr ⟨hns, hk₁, Nat.le_refl _⟩)) (fun fl s' hl => hl) fun _ _ y => y.elim

theorem cells_addr {cm : Str → Option Value} : ∀ {cs : List (Str × Addr)} {cells : List (Addr × Obj)}, CellsAre cm cs cells → cells.map (·.1) = cs.map (·.2)
  | _, _, .nil => rfl
  | _, _, .cons _ r => by simp only [List.map_cons, cells_addr r]

theorem callC {name qual : Str} {params : Arguments} {body : List Stmt} {scope : Scope} {dV kV doc pm cdv ct oc : Value} {an od : Option Addr} {osl : Array (Option Value)} {f : Addr} {pos : List Value} {kw : List (Str × Value)} {binds : List (Str × Value)}
    {Q : Value → Shared → Prop}
    (C : Cx w s.heap)
    (ho : (hd.heap_39 w.params).lookup f = some ⟨oc, od, .func (fnOf name qual params body scope dV kV doc pm an cdv ct), osl⟩) (hcd : codeIn (hd.heap_39 w.params) cdv qual = true) (hroom : A.depth < recursionLimit)
    (hbind : BindsTo s (fnOf name qual params body scope dV kV doc pm an cdv ct) ⟨pos, kw⟩ binds)
    (hkind : (binds.all fun y => scope.names.lookup y.1 == some .local || scope.names.lookup y.1 == some .cell) = true)
    (hnd : ((cellsFrom 0 scope.names []).map (·.1)).Nodup)
    (h : ∀ L h₁ tk cells, Fm s.heap L h₁ (bindL (envX qual scope L f cdv (cellsFrom (L + 1) scope.names [])).kindOf binds fun _ => none) cells →
      CellsAre (bindC (envX qual scope L f cdv (cellsFrom (L + 1) scope.names [])).kindOf binds fun _ => none) (cellsFrom (L + 1) scope.names []) cells →
      wpAny (model prog w) (A.deeper (envX qual scope L f cdv (cellsFrom (L + 1) scope.names []))) (execs body (envX qual scope L f cdv (cellsFrom (L + 1) scope.names [])))
        (fun fl s' => Q (match fl with | .ret v => v | _ => .none) s') (fun _ _ => False) { s with heap := h₁, toks := tk })
    (hco : scope.isCoroutine = false := by rfl) (hgen : scope.isGenerator = false := by rfl) (hk : scope.kind = .function := by rfl) :
    wpAny (model prog w) A (call (.ref f) pos kw) Q E s := by
  refine wpAny_call ?_
  refine codeAny_call_function hroom (C.k _ _ ho) rfl hco hgen rfl (codeRec_of C.k hcd) (hbind _ _ _ _ ?_)
  refine wpAny_newFunctionEnv_cells hk (kindsX hkind _) fun env' he s' x => ?_
  subst he
  refine ⟨C.nolimit.keeps x.toInCall.keep, codeAny_func ?_⟩
  have hap : (cellsFrom (s.heap.objs.size + 1) scope.names []).Pairwise fun x y => x.2 ≠ y.2 := x.apart
  obtain ⟨h₁, tk, rfl, _⟩ := x.done
  have hk₁ := x.toInCall.keep
  obtain ⟨cells, NC, Y⟩ := Cl.news (h₀ := s.heap) (Nat.le_refl _) fun n c hm => ⟨x.cell n c (lookup_of_mem_nodup (cellsFrom_names scope.names 0 (s.heap.objs.size + 1) [] [] rfl ▸ hnd) hm), x.above n c hm⟩
  have F0 : Fm s.heap s.heap.objs.size h₁ _ [] := .ofFr ⟨x.toInCall.ns, hk₁, Nat.le_refl _⟩
  have F1 : Fm s.heap s.heap.objs.size h₁ _ cells := ⟨F0.ns, F0.keep, NC, F0.off, by
    have e : cells.map (·.1) = (cellsFrom (s.heap.objs.size + 1) scope.names []).map (·.2) := cells_addr Y
    rw [e]
    exact List.pairwise_map.mpr hap⟩
  exact wpAny_mono (h s.heap.objs.size h₁ _ cells F1 Y) (fun fl s' hl => hl) fun _ _ y => y.elim
end

section
variable {M : Model} {A : Around} {s : Shared} {E : Value → Shared → Prop} {g : Heap} {L : Addr} {m : Str → Option Value} {news : List (Addr × Obj)} {env : Env} {x : Str} {pos : Pos} {v : Value}

/-- names, in whatever block -/
theorem nmL {Q : Value → Shared → Prop} (F : Fm g L s.heap m news) (hL : env.locals = L) (hk : env.scope.kind = .function) (hl : env.kindOf x = some .local) (hdb : (x == ("__debug__" : Str)) = false) (hv : m x = some v) (h : Q v s) :
    wpAny M A (eval (.Name x pos) env) Q E s := by
  subst hL; exact wpAny_Name (wpAny_loadName_local hk hl F.ns hv h) hdb
theorem nmC {Q : Value → Shared → Prop} {c : Addr} {o : Obj} (F : Fm g L s.heap m news) (hk : env.scope.kind = .function) (hl : env.kindOf x = some .cell) (hdb : (x == ("__debug__" : Str)) = false)
    (hc : env.cells.lookup x = some c) (hm : (c, o) ∈ news) (hv : o.data = .cell (some v)) (h : Q v s) : wpAny M A (eval (.Name x pos) env) Q E s :=
  wpAny_Name (wpAny_loadName_cell hk hl hc ⟨o, (F.new _ hm).1, hv⟩ h) hdb
theorem nmCell {Q : Value → Shared → Prop} {c : Addr} (hk : env.scope.kind = .function) (hl : env.kindOf x = some .cell) (hdb : (x == ("__debug__" : Str)) = false)
    (hc : env.cells.lookup x = some c) (hv : s.heap.IsCell c (some v)) (h : Q v s) : wpAny M A (eval (.Name x pos) env) Q E s :=
  wpAny_Name (wpAny_loadName_cell hk hl hc hv h) hdb
theorem nmNs {Q : Value → Shared → Prop} (hn : s.heap.Ns env.locals m) (hk : env.scope.kind = .function) (hl : env.kindOf x = some .local) (hdb : (x == ("__debug__" : Str)) = false) (hv : m x = some v) (h : Q v s) :
    wpAny M A (eval (.Name x pos) env) Q E s := wpAny_Name (wpAny_loadName_local hk hl hn hv h) hdb
theorem nmK {Q : Value → Shared → Prop} {w : World} (C : Cx w s.heap) (hk : env.scope.kind = .function) (hg : env.globals = mainGlobals) (hl : env.kindOf x = some .globalImplicit) (hdb : (x == ("__debug__" : Str)) = false)
    (e : nsIn (hd.heap_39 w.params) mainGlobals x = some (some v)) (h : Q v s) : wpAny M A (eval (.Name x pos) env) Q E s := by
  obtain ⟨loose, mg, mb, T⟩ := C.t
  exact Name_function_global hk hl (loadGlobal_global (env := env) (by rw [hg]; exact T.g) (mg_of C.k T.g e) h) hdb
theorem nmB {Q : Value → Shared → Prop} {w : World} (C : Cx w s.heap) (hk : env.scope.kind = .function) (hg : env.globals = mainGlobals) (hb : env.builtins = builtinsNs) (hl : env.kindOf x = some .globalImplicit) (hdb : (x == ("__debug__" : Str)) = false)
    (e : nsIn (hd.heap_39 w.params) mainGlobals x = some none) (hv : bootBuiltins x = some v) (hn : x ≠ "__name__") (h : Q v s) : wpAny M A (eval (.Name x pos) env) Q E s := by
  obtain ⟨loose, mg, mb, T⟩ := C.t
  exact Name_function_global hk hl (loadGlobal_builtin (env := env) (by rw [hg]; exact T.g) (mg_none_of C.k T.g e) (by rw [hb]; exact T.b) ((T.builtins x hn).trans hv) h) hdb

/-- stores -/
theorem stL {Q : Unit → Shared → Prop} (F : Fm g L s.heap m news) (hL : env.locals = L) (hk : env.scope.kind = .function) (hl : env.kindOf x = some .local)
    (h : ∀ h', Fm g L h' (fun y => if y = x then some v else m y) news → Q () { s with heap := h', toks := s.toks + 1 }) :
    wpAny M A (storeName env x v) Q E s := by
  subst hL
  exact wpAny_storeName_local hl F.ns (fun h' hn hs => h h' (F.setL hn hs)) (by rw [hk]; rfl)
theorem stC {Q : Unit → Shared → Prop} {c : Addr} {o : Obj} {v₀ : Option Value} {u : Obj → List (Addr × Obj)} (F : Fm g L s.heap m news) (hk : env.scope.kind = .function) (hl : env.kindOf x = some .cell)
    (hc : env.cells.lookup x = some c) (U : At c o news u) (hv : o.data = .cell v₀)
    (h : ∀ h' o', o'.data = .cell (some v) → Fm g L h' m (u o') → Q () { s with heap := h' }) :
    wpAny M A (storeName env x v) Q E s := by
  refine wpAny_storeName_cell hk hl hc ⟨o, F.get U.mem, hv⟩ fun h' hc' hs => ?_
  obtain ⟨o', ho', hd'⟩ := hc'
  exact h h' o' hd' (F.upd U hs ho')
end

section
variable {prog : Program} {w : World} {A : Around} {E : Value → Shared → Prop} {s : Shared} {target : Expr} {body : List Stmt} {env : Env}

/-- a for, whatever it goes over; the base may grow from turn to turn -/
theorem forFm {Q : Flow → Shared → Prop} {g : Heap} {L : Addr} {m : Str → Option Value} {news : List (Addr × Obj)} {I : Addr} {fp wr : List Addr} {n : Nat} {P Md : Nat → Value → Heap → Prop} {St : Nat → Heap → Prop}
    (W : KTurns prog w A target I fp wr n P Md St) (hwn : wr.Nodup) (hlive : ∀ i h, St i h → ∀ b ∈ wr, ∃ o, h.get? b = some o)
    (F : Fm g L s.heap m news) (hst : St 0 s.heap) (hfp : ∀ b ∈ fp, b ∈ wr ∨ ∃ o, g.get? b = some o)
    (hwr : ∀ b ∈ wr, b ≠ L ∧ g.get? b = none ∧ b ∉ news.map (·.1))
    (J : Nat → Heap → (Str → Option Value) → List (Addr × Obj) → Prop) (h0 : J 0 g m news)
    (step : ∀ i v g₁ m₁ news₁ own h tk, i < n → P i v h → J i g₁ m₁ news₁ → Ext g g₁ → Fm g₁ L h m₁ (own ++ news₁) →
      wpAny (model prog w) A (assign target env v) (fun _ s₂ => wpAny (model prog w) A (execs body env) (fun f s₃ => match f with
        | .ret v => Q (.ret v) s₃
        | .brk => Q .next s₃
        | _ => ∃ g₂ h' tk' m₂ news₂, s₃ = { s with heap := h', toks := tk' } ∧ Ext g₁ g₂ ∧ Fm g₂ L h' m₂ (own ++ news₂) ∧ J (i + 1) g₂ m₂ news₂) (fun _ _ => False) s₂) (fun _ _ => False) { s with heap := h, toks := tk })
    (done : ∀ g₁ m₁ news₁ h tk, J n g₁ m₁ news₁ → Ext g g₁ → Fm g₁ L h m₁ news₁ → Q .next { s with heap := h, toks := tk }) :
    codeAny (model prog w) A (.forLoop target (.ref I) body [] env) (fun r s' => match r with | .ok f => Q f s' | .error e => E e s') s := by
  have no : ∀ {α : Type} {t : Sem α} {Q : α → Shared → Prop} {E' : Value → Shared → Prop} {s : Shared}, wpAny (model prog w) A t Q (fun _ _ => False) s → wpAny (model prog w) A t Q E' s :=
    fun h => wpAny_mono h (fun _ _ q => q) fun _ _ f => f.elim
  -- the iterator's own objects are let go and taken anew
  have again : ∀ (g₁ h₁ h₂ : Heap) (m₁ : Str → Option Value) (news₁ : List (Addr × Obj)), (∀ b o, b ∉ wr → h₁.get? b = some o → h₂.get? b = some o) → (∀ b ∈ wr, ∃ o, h₂.get? b = some o) → Fm g₁ L h₁ m₁ news₁ →
      (∀ b ∈ wr, b ≠ L ∧ g₁.get? b = none ∧ b ∉ news₁.map (·.1)) → ∃ own', own'.map (·.1) = wr ∧ Fm g₁ L h₂ m₁ (own' ++ news₁) := by
    intro g₁ h₁ h₂ m₁ news₁ hk hw F₁ hwr₁
    have hL : L ∉ wr := fun hm => (hwr₁ L hm).1 rfl
    have mk : ∀ ws : List Addr, (∀ b ∈ ws, ∃ o, h₂.get? b = some o) → ∃ own' : List (Addr × Obj), own'.map (·.1) = ws ∧ ∀ p ∈ own', h₂.get? p.1 = some p.2 := by
      intro ws
      induction ws with
      | nil => exact fun _ => ⟨[], rfl, fun _ h => nomatch h⟩
      | cons b r ih =>
        intro hb
        obtain ⟨o, ho⟩ := hb b (.head _)
        obtain ⟨own', e, k⟩ := ih fun c hc => hb c (.tail _ hc)
        refine ⟨(b, o) :: own', by rw [List.map_cons, e], fun p hp => ?_⟩
        rcases List.mem_cons.mp hp with rfl | hp
        · exact ho
        · exact k p hp
    obtain ⟨own', e, k⟩ := mk wr hw
    refine ⟨own', e, F₁.ns.at' fun o q => hk _ o hL q, fun b o q => hk b o (fun hb => by rw [(hwr₁ b hb).2.1] at q; cases q) (F₁.keep b o q), fun p hp => ?_, F₁.off, ?_⟩
    · rcases List.mem_append.mp hp with hp | hp
      · have hpw : p.1 ∈ wr := e ▸ List.mem_map_of_mem hp
        exact ⟨k p hp, (hwr₁ _ hpw).1, (hwr₁ _ hpw).2.1⟩
      · have := F₁.new p hp
        exact ⟨hk _ _ (fun hb => (hwr₁ _ hb).2.2 (List.mem_map_of_mem hp)) this.1, this.2⟩
    · rw [List.map_append, e, List.nodup_append]
      exact ⟨hwn, F₁.sep, fun a ha b hb q => (hwr₁ a ha).2.2 (q ▸ hb)⟩
  refine codeAny_forLoop_any
    (fun k s' => ∃ g₁ h₁ tk m₁ news₁ i, s' = { s with heap := h₁, toks := tk } ∧ St i h₁ ∧ Ext g g₁ ∧ Fm g₁ L h₁ m₁ news₁ ∧ (∀ b ∈ wr, b ≠ L ∧ g₁.get? b = none ∧ b ∉ news₁.map (·.1)) ∧ J i g₁ m₁ news₁ ∧ i ≤ n ∧ k = n + 1 - i) ?_ (n + 1)
    ⟨g, s.heap, s.toks, m, news, 0, rfl, hst, Ext.refl g, F, hwr, h0, Nat.zero_le _, rfl⟩
  rintro k s' ⟨g₁, h₁, tk, m₁, news₁, i, rfl, hst₁, x₁, F₁, hwr₁, hJ, hi, rfl⟩
  by_cases hlt : i < n
  · refine W.item i _ _ _ hlt hst₁ fun v h₂ tk₂ hMd hk₂ => ?_
    refine W.go i v _ _ _ hMd fun h₃ hP hst₃ hk₃ => ?_
    have hk : ∀ b o, b ∉ wr → h₁.get? b = some o → h₃.get? b = some o := fun b o hb e => hk₃ b o hb (hk₂ b o hb e)
    obtain ⟨own', e', F₃⟩ := again g₁ h₁ h₃ m₁ news₁ hk (hlive _ _ hst₃) F₁ hwr₁
    refine no (wpAny_mono (step i v g₁ m₁ news₁ own' h₃ tk₂ hlt hP hJ x₁ F₃) (fun _ s₂ h₂' => no (wpAny_mono h₂' (fun f s₃ h₃' => ?_) fun _ _ q => q)) fun _ _ q => q)
    have fin : (∃ g₂ h' tk' m₂ news₂, s₃ = { s with heap := h', toks := tk' } ∧ Ext g₁ g₂ ∧ Fm g₂ L h' m₂ (own' ++ news₂) ∧ J (i + 1) g₂ m₂ news₂) →
        ∃ k', k' < n + 1 - i ∧ ∃ g₁ h₁ tk m₁ news₁ j, s₃ = { s with heap := h₁, toks := tk } ∧ St j h₁ ∧ Ext g g₁ ∧ Fm g₁ L h₁ m₁ news₁ ∧ (∀ b ∈ wr, b ≠ L ∧ g₁.get? b = none ∧ b ∉ news₁.map (·.1)) ∧ J j g₁ m₁ news₁ ∧ j ≤ n ∧ k' = n + 1 - j := by
      rintro ⟨g₂, h', tk', m₂, news₂, rfl, x₂, F₄, hJ'⟩
      refine ⟨n + 1 - (i + 1), by omega, g₂, h', tk', m₂, news₂, i + 1, rfl, W.frame _ _ _ hst₃ (fun b hb o e => ?_), x₁.trans x₂, F₄.right, fun b hb => ?_, hJ', hlt, rfl⟩
      · rcases hfp b hb with hbw | ⟨o', ho'⟩
        · rw [← e'] at hbw
          obtain ⟨p, hp, q⟩ := List.mem_map.mp hbw
          have h1 := (F₃.new p (List.mem_append_left _ hp)).1
          have h2 := (F₄.new p (List.mem_append_left _ hp)).1
          rw [q, e] at h1
          rw [q] at h2
          exact h2.trans h1.symm
        · have h1 := F₃.keep _ _ (x₁ _ _ ho')
          have h2 := F₄.keep _ _ (x₂ _ _ (x₁ _ _ ho'))
          rw [e] at h1
          exact h2.trans h1.symm
      · have hsep := F₄.sep
        rw [List.map_append, List.nodup_append, e'] at hsep
        have hb' := hb
        rw [← e'] at hb'
        obtain ⟨p, hp, q⟩ := List.mem_map.mp hb'
        have h2 := F₄.new p (List.mem_append_left _ hp)
        rw [q] at h2
        exact ⟨h2.2.1, h2.2.2, fun hm => hsep.2.2 b hb b hm rfl⟩
    cases f with
    | ret v => exact h₃'
    | brk => exact h₃'
    | cont => exact fin h₃'
    | next => exact fin h₃'
  · have hin : i = n := by omega
    subst hin
    refine W.done _ _ _ hst₁ fun h₂ tk₂ hk₂ => wpAny_execs_nil ?_
    have hL : L ∉ wr := fun hm => (hwr₁ L hm).1 rfl
    refine done g₁ m₁ news₁ h₂ tk₂ hJ x₁ ⟨F₁.ns.at' fun o q => hk₂ _ o hL q, fun b o q => hk₂ b o (fun hb => by rw [(hwr₁ b hb).2.1] at q; cases q) (F₁.keep b o q), fun p hp => ?_, F₁.off, F₁.sep⟩
    have := F₁.new p hp
    exact ⟨hk₂ _ _ (fun hb => (hwr₁ _ hb).2.2 (List.mem_map_of_mem hp)) this.1, this.2⟩
end

/-- what is to come is named, so that the steps ahead of it stay small -/
theorem hideQ {α : Type} {M : Model} {A : Around} {t : Sem α} {Q : α → Shared → Prop} {E : Value → Shared → Prop} {s : Shared} (h : ∀ R : α → Shared → Prop, (∀ a s, Q a s → R a s) → wpAny M A t R E s) : wpAny M A t Q E s := h Q fun _ _ q => q

section
variable {prog : Program} {w : World} {A : Around} {E E' : Value → Shared → Prop} {s : Shared} {target : Expr} {body : List Stmt} {env : Env} {Q : Flow → Shared → Prop} {g : Heap} {L : Addr} {m : Str → Option Value} {news : List (Addr × Obj)}

def Turn (prog : Program) (w : World) (A : Around) (target : Expr) (body : List Stmt) (env : Env) (Q : Flow → Shared → Prop) (g : Heap) (L : Addr) (s : Shared) (J : Nat → Heap → (Str → Option Value) → List (Addr × Obj) → Prop) (i : Nat) (P : Value → Heap → Prop) : Prop :=
  ∀ v g₁ m₁ news₁ own h tk, P v h → J i g₁ m₁ news₁ → Ext g g₁ → Fm g₁ L h m₁ (own ++ news₁) →
      wpAny (model prog w) A (assign target env v) (fun _ s₂ => wpAny (model prog w) A (execs body env) (fun f s₃ => match f with
        | .ret v => Q (.ret v) s₃
        | .brk => Q .next s₃
        | _ => ∃ g₂ h' tk' m₂ news₂, s₃ = { s with heap := h', toks := tk' } ∧ Ext g₁ g₂ ∧ Fm g₂ L h' m₂ (own ++ news₂) ∧ J (i + 1) g₂ m₂ news₂) (fun _ _ => False) s₂) (fun _ _ => False) { s with heap := h, toks := tk }
def Done (Q : Flow → Shared → Prop) (g : Heap) (L : Addr) (s : Shared) (J : Nat → Heap → (Str → Option Value) → List (Addr × Obj) → Prop) (n : Nat) : Prop :=
  ∀ g₁ m₁ news₁ h tk, J n g₁ m₁ news₁ → Ext g g₁ → Fm g₁ L h m₁ news₁ → Q .next { s with heap := h, toks := tk }

theorem iterTup {t : Addr} {xs : List Value} (hh : A.handled = none) (F : Fm g L s.heap m news) (ht : IsTup g t xs.toArray)
    (J : Nat → Heap → (Str → Option Value) → List (Addr × Obj) → Prop) (h0 : J 0 g m news)
    (step : ∀ i, i < xs.length → Turn prog w A target body env Q g L s J i (fun v _ => xs[i]? = some v)) (done : Done Q g L s J xs.length) :
    wpAny (model prog w) A (pyIter (.ref t)) (fun it s₂ => codeAny (model prog w) A (.forLoop target it body [] env) (fun r s' => match r with | .ok f => Q f s' | .error e => E e s') s₂) E' s := by
  have ht' : s.heap.IsTuple t xs.toArray := IsTup.keeps ht F.keep
  obtain ⟨ot, hot, _⟩ := id ht
  have hts := F.keep _ _ hot
  have hlt : t < s.heap.objs.size := Heap.lt_size hts
  refine wpAny_pyIter_tuple ht' ?_
  have F' := F.push { cls := .type "tuple_iterator", data := .fields #[.ref t, .int 0 0] }
  refine forFm (s := { s with heap := s.heap.push _ }) (KTurns.ofWalks (Walks.tuple hh s.heap.objs.size t (Nat.ne_of_lt hlt) xs.toArray) fun i v s Q E st q => letGo_tupleiter st.1 q) (by simp) ?_ F'.tail
    ⟨⟨_, Heap.get?_push_size _ rfl, rfl, rfl⟩, ht'.at fun o e => Heap.get?_push_of_some _ e⟩ ?_ ?_ J h0 ?_ ?_
  · rintro i h ⟨⟨o, ho, _⟩, _⟩ b hb
    rw [List.mem_singleton.mp hb]; exact ⟨o, ho⟩
  · intro b hb
    rcases List.mem_cons.mp hb with e | hb
    · exact .inl (by simp [e])
    · exact .inr ⟨ot, by rw [List.mem_singleton.mp hb]; exact hot⟩
  · intro b hb
    rw [List.mem_singleton.mp hb]
    have h1 := F'.new _ (.head _)
    refine ⟨h1.2.1, h1.2.2, fun hm => ?_⟩
    have := F'.sep
    rw [List.map_cons, List.nodup_cons] at this
    exact this.1 hm
  · intro i v g₁ m₁ news₁ own h tk hi hP hJ x F₁
    exact step i (by simpa using hi) v g₁ m₁ news₁ own h tk (by simpa using hP) hJ x F₁
  · intro g₁ m₁ news₁ h tk hJ x F₁
    exact done g₁ m₁ news₁ h tk (by simpa using hJ) x F₁

theorem iterList {t : Addr} {xs : List Value} (hh : A.handled = none) (F : Fm g L s.heap m news) (ht : g.IsList t xs.toArray)
    (J : Nat → Heap → (Str → Option Value) → List (Addr × Obj) → Prop) (h0 : J 0 g m news)
    (step : ∀ i, i < xs.length → Turn prog w A target body env Q g L s J i (fun v _ => xs[i]? = some v)) (done : Done Q g L s J xs.length) :
    wpAny (model prog w) A (pyIter (.ref t)) (fun it s₂ => codeAny (model prog w) A (.forLoop target it body [] env) (fun r s' => match r with | .ok f => Q f s' | .error e => E e s') s₂) E' s := by
  have ht' : s.heap.IsList t xs.toArray := ht.at fun o e => F.keep _ o e
  obtain ⟨ot, hot, _⟩ := id ht
  have hts := F.keep _ _ hot
  have hlt : t < s.heap.objs.size := Heap.lt_size hts
  refine wpAny_pyIter_list ht' ?_
  have F' := F.push { cls := .type "list_iterator", data := .fields #[.ref t, .int 0 0] }
  refine forFm (s := { s with heap := s.heap.push _ }) (KTurns.ofWalks (Walks.list hh s.heap.objs.size t (Nat.ne_of_lt hlt) xs.toArray) fun i v s Q E st q => letGo_listiter st.1 q) (by simp) ?_ F'.tail
    ⟨⟨_, Heap.get?_push_size _ rfl, rfl, rfl⟩, ht'.at fun o e => Heap.get?_push_of_some _ e⟩ ?_ ?_ J h0 ?_ ?_
  · rintro i h ⟨⟨o, ho, _⟩, _⟩ b hb
    rw [List.mem_singleton.mp hb]; exact ⟨o, ho⟩
  · intro b hb
    rcases List.mem_cons.mp hb with e | hb
    · exact .inl (by simp [e])
    · exact .inr ⟨ot, by rw [List.mem_singleton.mp hb]; exact hot⟩
  · intro b hb
    rw [List.mem_singleton.mp hb]
    have h1 := F'.new _ (.head _)
    refine ⟨h1.2.1, h1.2.2, fun hm => ?_⟩
    have := F'.sep
    rw [List.map_cons, List.nodup_cons] at this
    exact this.1 hm
  · intro i v g₁ m₁ news₁ own h tk hi hP hJ x F₁
    exact step i (by simpa using hi) v g₁ m₁ news₁ own h tk (by simpa using hP) hJ x F₁
  · intro g₁ m₁ news₁ h tk hJ x F₁
    exact done g₁ m₁ news₁ h tk (by simpa using hJ) x F₁

/-- over enumerate(list): the pairs are made anew -/
theorem iterEnum {elts : List Expr} {kk : Nat} {tp : Pos} {t : Addr} {xs : List Value} (hh : A.handled = none) (F : Fm g L s.heap m news) (ht : g.IsList t xs.toArray)
    (J : Nat → Heap → (Str → Option Value) → List (Addr × Obj) → Prop) (h0 : J 0 g m news)
    (step : ∀ i, i < xs.length → Turn prog w A (.Tuple elts kk tp) body env Q g L s J i (fun v h => ∃ T tk x, v = .ref T ∧ xs[i]? = some x ∧ h.IsTuple T #[.int i tk, x])) (done : Done Q g L s J xs.length) :
    wpAny (model prog w) A (call (.type "enumerate") [.ref t]) (fun v s₁ => wpAny (model prog w) A (pyIter v) (fun it s₂ => codeAny (model prog w) A (.forLoop (.Tuple elts kk tp) it body [] env) (fun r s' => match r with | .ok f => Q f s' | .error e => E e s') s₂) E' s₁) E' s := by
  have ht' : s.heap.IsList t xs.toArray := ht.at fun o e => F.keep _ o e
  obtain ⟨ot, hot, _⟩ := id ht
  have hts := F.keep _ _ hot
  have hlt : t < s.heap.objs.size := Heap.lt_size hts
  refine call_enumerate_list ht' fun h' hE hI hsz hk => ?_
  refine wpAny_pyIter_enum hE ?_
  have F' := F.ext hk
  have fresh : ∀ a, s.heap.objs.size ≤ a → a ≠ L ∧ g.get? a = none ∧ a ∉ news.map (·.1) := by
    intro a ha
    refine ⟨Nat.ne_of_gt (Nat.lt_of_lt_of_le F.ns.lt ha), ?_, fun hm => ?_⟩
    · cases e : g.get? a with
      | none => rfl
      | some o => exact absurd (Heap.lt_size (F.keep _ _ e)) (Nat.not_lt.mpr ha)
    · obtain ⟨p, hp, e⟩ := List.mem_map.mp hm
      exact absurd (Heap.lt_size (F.new p hp).1) (e ▸ Nat.not_lt.mpr ha)
  have hli : t ≠ s.heap.objs.size := Nat.ne_of_lt hlt
  have hle : t ≠ s.heap.objs.size + 1 := Nat.ne_of_lt (Nat.lt_succ_of_lt hlt)
  refine forFm (s := { s with heap := h' }) (KTurns.ofWalksU (WalksT.enumerate hh (s.heap.objs.size + 1) s.heap.objs.size t (Nat.succ_ne_self _) hle hli xs.toArray).toU) (by simp) ?_ F'
    ⟨⟨_, hE⟩, hI, ht'.at fun o e => hk _ o e⟩ ?_ ?_ J h0 ?_ ?_
  · rintro i h ⟨⟨old, he⟩, ⟨o, ho, _⟩, _⟩ b hb
    rcases List.mem_cons.mp hb with e | hb
    · exact ⟨_, e ▸ he⟩
    · rw [List.mem_singleton.mp hb]; exact ⟨o, ho⟩
  · intro b hb
    rcases List.mem_cons.mp hb with e | hb
    · exact .inl (by simp [e])
    · rcases List.mem_cons.mp hb with e | hb
      · exact .inl (by simp [e])
      · exact .inr ⟨ot, by rw [List.mem_singleton.mp hb]; exact hot⟩
  · intro b hb
    rcases List.mem_cons.mp hb with e | hb
    · rw [e]; exact fresh _ (Nat.le_succ _)
    · rw [List.mem_singleton.mp hb]; exact fresh _ (Nat.le_refl _)
  · rintro i v g₁ m₁ news₁ own h tk hi ⟨T, vals, rfl, ⟨tt, x, hx, rfl⟩, hT⟩ hJ x₁ F₁
    exact step i (by simpa using hi) _ g₁ m₁ news₁ own h tk ⟨T, tt, x, rfl, by simpa using hx, hT⟩ hJ x₁ F₁
  · intro g₁ m₁ news₁ h tk hJ x F₁
    exact done g₁ m₁ news₁ h tk (by simpa using hJ) x F₁

/-- over range(n) -/
theorem iterRange {r : Addr} {a : Int} {n : Nat} {t u v : Tok} (hh : A.handled = none) (F : Fm g L s.heap m news) (hr : IsRange s.heap r a (a + n) 1 t u v)
    (hsmall : Builtin.Range.small a (a + n) 1 = true)
    (J : Nat → Heap → (Str → Option Value) → List (Addr × Obj) → Prop) (h0 : J 0 g m news)
    (step : ∀ i, i < n → Turn prog w A target body env Q g L s J i (fun v _ => ∃ t, v = .int (a + i) t)) (done : Done Q g L s J n)
    (hgo : ∀ it v, letOwnedTupleGo target it v = pure () := by intro _ _; rfl) :
    wpAny (model prog w) A (pyIter (.ref r)) (fun it s₂ => codeAny (model prog w) A (.forLoop target it body [] env) (fun r s' => match r with | .ok f => Q f s' | .error e => E e s') s₂) E' s := by
  have hn : Builtin.Range.rangeSize a (a + n) 1 = (n : Int) := by
    rw [rangeSize_one]
    split <;> omega
  refine wpAny_pyIter_range hr hsmall ?_
  have F' := F.push { cls := .type "range_iterator", data := .fields #[rawInt a, rawInt (Builtin.Range.rangeSize a (a + n) 1), rawInt 1] }
  refine forFm (s := { s with heap := s.heap.push _ }) (KTurns.ofWalks (Walks.range hh s.heap.objs.size a 1 n) fun i v s Q E st q => by rw [hgo]; exact wpAny_pure q) (by simp) ?_ F'.tail
    ?_ ?_ ?_ J h0 ?_ ?_
  · rintro i h ho b hb
    rw [List.mem_singleton.mp hb]; exact ⟨_, ho⟩
  · show IsRangeIter _ _ _ _ _
    rw [hn]
    simpa using Heap.get?_push_size _ rfl
  · intro b hb
    exact .inl hb
  · intro b hb
    rw [List.mem_singleton.mp hb]
    have h1 := F'.new _ (.head _)
    refine ⟨h1.2.1, h1.2.2, fun hm => ?_⟩
    have := F'.sep
    rw [List.map_cons, List.nodup_cons] at this
    exact this.1 hm
  · rintro i v g₁ m₁ news₁ own h tk hi ⟨t, rfl⟩ hJ x F₁
    refine step i hi _ g₁ m₁ news₁ own h tk ⟨t, by rw [Int.mul_one]⟩ hJ x F₁
  · intro g₁ m₁ news₁ h tk hJ x F₁
    exact done g₁ m₁ news₁ h tk hJ x F₁
end

abbrev PR : Program := PySem.Challenge.rw_sz0104_01.row.prog

structure Rt where
  num : Int
  as : Int
  med : Int
  cost : Int
deriving DecidableEq

def IsPath (h : Heap) (v : Value) (asn : Int) : Prop := ∃ p q r t1 t2, v = .ref p ∧ IsTup h p [.ref q].toArray ∧ IsTup h q [.int 2 t1, .ref r].toArray ∧ IsTup h r [.int asn t2].toArray
theorem IsPath.mono {h h' : Heap} {v : Value} {asn : Int} (x : IsPath h v asn) (k : Ext h h') : IsPath h' v asn :=
  let ⟨p, q, r, t1, t2, e, a, b, c⟩ := x; ⟨p, q, r, t1, t2, e, a.keeps k, b.keeps k, c.keeps k⟩
theorem dictMono {K : Type} [DecidableEq K] {w : World} {knd : KeyKind PR w K} {h h' : Heap} {d : Addr} {kvs : List (K × Value)} (x : h.DictOf knd d kvs) (k : Ext h h') : h'.DictOf knd d kvs := x.keep k

structure IsRouteAt (w : World) (h : Heap) (a : Addr) (r : Rt) (n8 d : Addr) (pv : Value) (t : Nat → Tok) : Prop where
  tup : IsTup h a [.ref n8, .ref d, .int r.num (t 0), .int r.cost (t 1), .int 0 (t 2)].toArray
  pre : IsTup h n8 [.int 8 (t 3), .int 3 (t 4)].toArray
  lo : (d == sysModules) = false
  attrs : h.DictOf (strKind PR w) d [("origin", .int 0 (t 5)), ("as_path", pv), ("next_hop", .int 1 (t 6)), ("med", .int r.med (t 7))]
  path : IsPath h pv r.as
def IsRoute (w : World) (h : Heap) (a : Addr) (r : Rt) : Prop := ∃ n8 d pv t, IsRouteAt w h a r n8 d pv t
theorem IsRoute.mono {w : World} {h h' : Heap} {a : Addr} {r : Rt} (x : IsRoute w h a r) (k : Ext h h') : IsRoute w h' a r :=
  let ⟨n8, d, pv, t, y⟩ := x; ⟨n8, d, pv, t, ⟨y.tup.keeps k, y.pre.keeps k, y.lo, dictMono y.attrs k, y.path.mono k⟩⟩

section
variable {prog : Program} {w : World} {K : Type} [DecidableEq K] {knd : KeyKind prog w K} {A : Around} {E : Value → Shared → Prop} {s : Shared} {d : Addr} {kvs : List (K × Value)} {k : K} {key v dflt : Value}
theorem dget2 {Q : Value → Shared → Prop} (hD : s.heap.DictOf knd d kvs) (lo : (d == sysModules) = false) (hkey : knd.is k key = true) (h : Q ((valueAt kvs k).getD dflt) { s with toks := s.toks + 1 }) :
    wpAny (model prog w) A (call (.builtin "dict.get") [.ref d, key, dflt]) Q E s :=
  call_meetsIn PySem.F.slot_dict_get hD.typeIs PySem.F.entry_dict_get (PySem.F.args_dict_get_3 _ _ _) (meets_dict_get_default knd d hkey lo dflt) ⟨_, hD.mapOf, h⟩
theorem dgetS {Q : Value → Shared → Prop} (hD : s.heap.DictOf knd d kvs) (lo : (d == sysModules) = false) (hkey : knd.is k key = true) (hl : valueAt kvs k = some v) (h : Q v { s with toks := s.toks + 1 }) :
    wpAny (model prog w) A (call (.builtin "dict.get") [.ref d, key, dflt]) Q E s := dget2 hD lo hkey (by rw [hl]; exact h)
theorem dgetN {Q : Value → Shared → Prop} (hD : s.heap.DictOf knd d kvs) (lo : (d == sysModules) = false) (hkey : knd.is k key = true) (hl : valueAt kvs k = none) (h : Q dflt { s with toks := s.toks + 1 }) :
    wpAny (model prog w) A (call (.builtin "dict.get") [.ref d, key, dflt]) Q E s := dget2 hD lo hkey (by rw [hl]; exact h)
theorem dmeth {name : Str} {id : String} {pl : Sem Bool} {Q : Value × List Value → Shared → Prop} (slot : Slot "dict" name id) (ty : typeOf (.builtin id) = pure (.type "method_descriptor")) (hD : s.heap.DictOf knd d kvs) (h : Q (.builtin id, [.ref d]) s) :
    wpAny (model prog w) A (getMethod (.ref d) name pl) Q E s :=
  getMethod_builtin hD.typeIs PySem.F.plainAttrs_dict slot ty hD.mapOf.noDict h
theorem ditem {value slice : Expr} {Q : Value → Shared → Prop} (hD : s.heap.DictOf knd d kvs) (hkey : knd.is k key = true) (hl : valueAt kvs k = some v) (h : Q v { s with toks := s.toks + 1 })
    (hs : subscripted slice false (.ref d) key = operate [.ref d, key] (getItem (.ref d) key) := by with_unfolding_all rfl) : wpAny (model prog w) A (subscriptTail value slice (.ref d) key) Q E s :=
  tail_any hD.typeIs slot_dict_getitem.lookup (wpAny_getItem_of hkey hD.mapOf hl h) hs
end
section
variable {prog : Program} {w : World} {A : Around} {E : Value → Shared → Prop} {s : Shared}
theorem litem {value slice : Expr} {a : Addr} {l : List Value} {i : Int} {u : Tok} {x : Value} {Q : Value → Shared → Prop} (hl : s.heap.IsList a l.toArray)
    (hlo : 0 ≤ i) (hhi : i < 2 ^ 63) (hx : l[i.toNat]? = some x) (h : Q x s)
    (hs : subscripted slice false (.ref a) (.int i u) = operate [.ref a, .int i u] (getItem (.ref a) (.int i u)) := by with_unfolding_all rfl) :
    wpAny (model prog w) A (subscriptTail value slice (.ref a) (.int i u)) Q E s :=
  tail_any hl.typeIs slot_list_getitem.lookup (getItem_listL hl hlo hhi hx h) hs
theorem litemNeg {value slice : Expr} {a : Addr} {l : List Value} {i : Int} {u : Tok} {x : Value} {Q : Value → Shared → Prop} (hl : s.heap.IsList a l.toArray)
    (h0 : i < 0) (h1 : -(l.length : Int) ≤ i) (hlo : -(2 ^ 63) ≤ i) (hx : l[(i + l.length).toNat]? = some x) (h : Q x s)
    (hs : subscripted slice false (.ref a) (.int i u) = operate [.ref a, .int i u] (getItem (.ref a) (.int i u)) := by with_unfolding_all rfl) :
    wpAny (model prog w) A (subscriptTail value slice (.ref a) (.int i u)) Q E s :=
  tail_any hl.typeIs slot_list_getitem.lookup (wpAny_getItem_list_neg hl h0 (by simpa using h1) hlo (by simpa using hx) h) hs
end

theorem Fm.cx {w : World} {g h : Heap} {L : Addr} {m : Str → Option Value} {news : List (Addr × Obj)} (F : Fm g L h m news) (C : Cx w g) : Cx w h := C.keeps F.keep
theorem Fm.tup {g h : Heap} {L t : Addr} {m : Str → Option Value} {news : List (Addr × Obj)} {xs : Array Value} (F : Fm g L h m news) (x : IsTup g t xs) : IsTup h t xs := x.keeps F.keep
theorem Fm.list {g h : Heap} {L t : Addr} {m : Str → Option Value} {news : List (Addr × Obj)} {xs : Array Value} (F : Fm g L h m news) (x : g.IsList t xs) : h.IsList t xs := x.at fun o e => F.keep _ o e
theorem Fm.dict {K : Type} [DecidableEq K] {w : World} {knd : KeyKind PR w K} {g h : Heap} {L t : Addr} {m : Str → Option Value} {news : List (Addr × Obj)} {kvs : List (K × Value)} (F : Fm g L h m news) (x : g.DictOf knd t kvs) : h.DictOf knd t kvs := x.keep F.keep
theorem Fm.tupIn {g h : Heap} {L t : Addr} {m : Str → Option Value} {news : List (Addr × Obj)} {xs : Array Value} {n : Nat} (F : Fm g L h m news) (x : (t, ({ cls := .type "tuple", data := .seq xs n } : Obj)) ∈ news) : IsTup h t xs := ⟨_, F.get x, rfl, _, rfl⟩
theorem Fm.listIn {g h : Heap} {L t : Addr} {m : Str → Option Value} {news : List (Addr × Obj)} {xs : Array Value} {n : Nat} (F : Fm g L h m news) (x : (t, listOf xs n) ∈ news) : h.IsList t xs := ⟨_, F.get x, rfl, _, rfl⟩
section
variable {M : Model} {A : Around} {s : Shared} {E : Value → Shared → Prop} {g : Heap} {L : Addr} {m : Str → Option Value} {news : List (Addr × Obj)} {env : Env} {x : Str} {pos : Pos} {v : Value}
theorem nmCB {Q : Value → Shared → Prop} {c : Addr} (F : Fm g L s.heap m news) (hk : env.scope.kind = .function) (hl : env.kindOf x = some .cell) (hdb : (x == ("__debug__" : Str)) = false)
    (hc : env.cells.lookup x = some c) (hv : g.IsCell c (some v)) (h : Q v s) : wpAny M A (eval (.Name x pos) env) Q E s :=
  nmCell hk hl hdb hc (hv.keeps F.keep) h
end
section
variable {prog : Program} {w : World} {A : Around} {E : Value → Shared → Prop} {s : Shared} {g : Heap} {L : Addr} {m : Str → Option Value} {news : List (Addr × Obj)} {env : Env}
theorem asgTup2 {a b : Str} {pa pb tp : Pos} {kk : Nat} {T : Addr} {x y : Value} {Q : Unit → Shared → Prop} (hh : A.handled = none) (F : Fm g L s.heap m news) (ht : s.heap.IsTuple T #[x, y]) (hL : env.locals = L)
    (hk : env.scope.kind = .function) (ha : env.kindOf a = some .local) (hb : env.kindOf b = some .local)
    (h : ∀ (h' : Heap) (tk : Nat), Fm g L h' (fun z => if z = b then some y else if z = a then some x else m z) news → Q () { s with heap := h', toks := tk }) :
    wpAny (model prog w) A (assign (.Tuple [.Name a pa, .Name b pb] kk tp) env (.ref T)) Q E s := by
  subst hL
  exact kcp_assign hh ht ha hb (by rw [hk]; rfl) F.ns fun h' tk hn k => h h' tk (F.extBut hn k)
theorem asgTup3 {a b c : Str} {pa pb pc tp : Pos} {kk : Nat} {T : Addr} {x y z : Value} {Q : Unit → Shared → Prop} (hh : A.handled = none) (F : Fm g L s.heap m news) (ht : s.heap.IsTuple T #[x, y, z]) (hL : env.locals = L)
    (hk : env.scope.kind = .function) (ha : env.kindOf a = some .local) (hb : env.kindOf b = some .local) (hc : env.kindOf c = some .local)
    (h : ∀ (h' : Heap) (tk : Nat), Fm g L h' (fun u => if u = c then some z else if u = b then some y else if u = a then some x else m u) news → Q () { s with heap := h', toks := tk }) :
    wpAny (model prog w) A (assign (.Tuple [.Name a pa, .Name b pb, .Name c pc] kk tp) env (.ref T)) Q E s := by
  refine wpAny_assign_Tuple hh ht rfl rfl fun h₁ he₁ => ?_
  have F₁ := F.ext (h' := h₁) fun c o e => he₁ c o (Nat.ne_of_lt (Heap.lt_size e)) e
  show wpAny _ _ (assignInOrder [assign (.Name a pa) env, assign (.Name b pb) env, assign (.Name c pc) env] [x, y, z]) _ _ _
  refine assignInOrder_cons (PySem.wpAny_assign_Name (stL F₁ hL hk ha fun h₂ F₂ => ?_))
  refine assignInOrder_cons (PySem.wpAny_assign_Name (stL F₂ hL hk hb fun h₃ F₃ => ?_))
  refine assignInOrder_cons (PySem.wpAny_assign_Name (stL F₃ hL hk hc fun h₄ F₄ => ?_))
  exact assignInOrder_nil (h h₄ _ F₄)
end

/-- the peer of a number -/
def HasPeer (w : World) (h : Heap) (pd : Addr) (k : Int) : Prop := ∃ kvs p v t0 t1 t2, h.DictOf (intKind PR w) pd kvs ∧ valueAt kvs k = some (.ref p) ∧ (p == sysModules) = false ∧
  h.DictOf (strKind PR w) p [("id", .int k t0), ("as", v), ("addr", .int (20 - k) t1), ("kind", .str "ebgp" t2)]
theorem HasPeer.mono {w : World} {h h' : Heap} {pd : Addr} {k : Int} (x : HasPeer w h pd k) (e : Ext h h') : HasPeer w h' pd k :=
  let ⟨kvs, p, v, t0, t1, t2, a, b, c, d⟩ := x; ⟨kvs, p, v, t0, t1, t2, dictMono a e, b, c, dictMono d e⟩
/-- the options -/
def IsOpts (w : World) (h : Heap) (od : Addr) (b : Bool) : Prop := (od == sysModules) = false ∧ h.DictOf (strKind PR w) od [("always_med", .bool b)]
theorem IsOpts.mono {w : World} {h h' : Heap} {od : Addr} {b : Bool} (x : IsOpts w h od b) (e : Ext h h') : IsOpts w h' od b := ⟨x.1, dictMono x.2 e⟩

theorem callMeth {M : Model} {A : Around} {E : Value → Shared → Prop} {s : Shared} {env : Env} {pos : Pos} {id : String} {v : Value} {e : Expr} {rest : List Expr} {Q : Value → Shared → Prop}
    (h : wpAny M A (spliced (backTo pos (starEach (e :: rest) env))) (fun vs s₁ => wpAny M A (call (.builtin id) (v :: vs)) Q E s₁) E s)
    (e1 : starEach (e :: rest) env = (false, eval e env) :: starEach rest env := by rfl) (e2 : (List.any (backTo pos (starEach rest env)) fun x => Prod.fst x) = false := by rfl) :
    wpAny M A (callWith pos (.builtin id) [v] (backTo pos (starEach (e :: rest) env)) []) Q E s := callWith_method1 (first := [v]) h e1 e2

section
variable {prog : Program} {w : World} {A : Around} {s : Shared} {E : Value → Shared → Prop} {g : Heap} {L : Addr} {m : Str → Option Value} {news : List (Addr × Obj)} {Q : Value → Shared → Prop}
theorem tupFm {M : Model} {vs : List Value} (F : Fm g L s.heap m news) (hsz : vs.length ≤ sizeLine)
    (h : ∀ T h', s.heap.get? T = none → Ext s.heap h' → Fm g L h' m ((T, { cls := .type "tuple", data := .seq vs.toArray }) :: news) → Q (.ref T) { s with heap := h' }) : wpAny M A (newTuple vs) Q E s :=
  wpAny_newTuple (h _ _ (by
    cases e : s.heap.get? s.heap.objs.size with
    | none => rfl
    | some o => exact absurd (Heap.lt_size e) (Nat.lt_irrefl _)) (Ext.push _ _) (F.push _)) hsz
theorem lstFm {M : Model} {vs : List Value} (F : Fm g L s.heap m news) (hsz : vs.length ≤ sizeLine)
    (h : ∀ T h', s.heap.get? T = none → Ext s.heap h' → Fm g L h' m ((T, listOf vs.toArray 0) :: news) → Q (.ref T) { s with heap := h' }) : wpAny M A (newList vs) Q E s :=
  wpAny_newList (h _ _ (by
    cases e : s.heap.get? s.heap.objs.size with
    | none => rfl
    | some o => exact absurd (Heap.lt_size e) (Nat.lt_irrefl _)) (Ext.push _ _) (F.push _)) hsz
theorem appendFm {R : Addr} {vs : List Value} {k : Nat} {x : Value} {u : Obj → List (Addr × Obj)} (F : Fm g L s.heap m news) (U : At R (listOf vs.toArray k) news u) (hsz : vs.length ≤ sizeLine)
    (h : ∀ h' k', Fm g L h' m (u (listOf (vs ++ [x]).toArray k')) → Q .none { s with heap := h' }) : wpAny (model prog w) A (call (.builtin "list.append") [.ref R, x]) Q E s := by
  refine wpAny_list_append_plain (items := vs.toArray) ⟨_, F.get U.mem⟩ (fun h₅ hl₅ hs₅ => ?_) (by simpa using hsz)
  obtain ⟨k₅, ho₅⟩ := hl₅
  rw [List.push_toArray] at ho₅
  exact h _ _ (F.upd U hs₅ ho₅)
theorem gmAppend {M : Model} {R : Addr} {vs : List Value} {k : Nat} {pl : Sem Bool} {u : Obj → List (Addr × Obj)} {Q : Value × List Value → Shared → Prop} (F : Fm g L s.heap m news) (U : At R (listOf vs.toArray k) news u)
    (h : Q (.builtin "list.append", [.ref R]) s) : wpAny M A (getMethod (.ref R) "append" pl) Q E s := getMethod_list_append (F.get U.mem) rfl rfl h
theorem addFm {l b : Addr} {vs ws : List Value} (F : Fm g L s.heap m news) (hl : s.heap.IsList l vs.toArray) (hb : s.heap.IsList b ws.toArray) (hsz : vs.length + ws.length ≤ sizeLine)
    (h : ∀ T h', s.heap.get? T = none → Ext s.heap h' → Fm g L h' m ((T, listOf (vs ++ ws).toArray 0) :: news) → Q (.ref T) { s with heap := h' }) : wpAny (model prog w) A (binaryOp .Add (.ref l) (.ref b)) Q E s := by
  obtain ⟨⟨cls, dd, data, sl⟩, ho, hc, n, hd⟩ := id hl
  obtain ⟨⟨cls2, dd2, data2, sl2⟩, ho2, hc2, n2, hd2⟩ := id hb
  simp only at hc hd hc2 hd2
  subst hc hd hc2 hd2
  have e : vs.toArray ++ ws.toArray = (vs ++ ws).toArray := by simp
  refine concat_meets ⟨_, ho, rfl⟩ ⟨_, ho2, rfl⟩ noFill_list_add seq_list_add PySem.F.slot_list_add PySem.F.entry_list_add (PySem.F.args_list_add_2 _ _) (list_addW l b vs.toArray ws.toArray n n2 dd dd2 sl sl2 (by simpa using hsz)) ⟨ho, ho2, ?_⟩
  rw [e]
  refine h _ _ ?_ (Ext.push _ _) (F.push _)
  cases e : s.heap.get? s.heap.objs.size with
  | none => rfl
  | some o => exact absurd (Heap.lt_size e) (Nat.lt_irrefl _)
end
/-- what a call has left goes to the base -/
theorem Fm.into {g h h' : Heap} {L D : Addr} {o : Obj} {m : Str → Option Value} {news : List (Addr × Obj)} (F : Fm g L h m news) (x : Ext h h') (hn : h.get? D = none) (hD : h'.get? D = some o) :
    ∃ g', Ext g g' ∧ Fm g' L h' m news ∧ g'.get? D = some o := (F.add hD hn x).sink1

example : PySem.Challenge.rw_sz0104_01 = PySem.Challenge.rw_sz0104_01 ∧ hd.heap_39 = hd.heap_39 := by
  k_fill; exact ⟨rfl, rfl⟩
-- the steps of the walk; each line has a name of its own, which the library never asks
local macro_rules | `(tactic| walk_at "mes") => `(tactic| repeat' (first | (first | (with_reducible first | refine wpAny_execs_cons ?_ | refine wpAny_execs_nil ?_ | refine wpAny_Return_some ?_ | refine PyProof.Rows.Tuple_ ?_ | refine PyProof.Rows.List_ ?_ | refine wpAny_If ?_ | refine wpAny_Constant_int ?_ | refine Constant_str ?_ | refine wpAny_Constant_none ?_ | refine wpAny_Constant_bool ?_ | refine Subscript_ ?_ | refine isTrue_and_nil ?_ | refine isTrue_and ?_ | refine isTrue_not ?_ | refine BoolOp_one ?_ | refine BoolOp_and ?_ | refine BoolOp_or ?_ | refine IfExp_ ?_ | refine wpAny_BinOp ?_ | refine UnaryOp_ ?_ | refine not_of ?_ | refine add_int ?_ | refine sub_int ?_ | refine neg_int ?_ | refine eq_int ?_ | refine eq_str ?_ | refine ne_int ?_ | refine lt_int ?_ | refine gt_int ?_ | refine wpAny_truthy_bool ?_ | refine assignInOrder_cons ?_ | refine assignInOrder_nil ?_ | refine PySem.wpAny_assign_Name ?_) | (((with_reducible show wpAny _ _ (eval (Expr.Name _ _) _) _ _ _); first | (refine' nmL ?F ?a ?b ?c ?d ?e ?_; (case F => with_reducible assumption); (case a => rfl); (case b => rfl); (case c => rfl); (case d => decide); (case e => first | rfl | assumption)) | (refine' nmC ?F ?b ?c ?d ?e ?f ?g ?_; (case F => with_reducible assumption); (case b => rfl); (case c => rfl); (case d => decide); (case e => rfl); (case f => ((repeat (first | exact List.Mem.head _ | refine List.Mem.tail _ ?_ | refine List.mem_append_right _ ?_)))); (case g => assumption)) | (refine' nmCB ?F ?b ?c ?d ?e ?f ?_; (case F => with_reducible assumption); (case b => rfl); (case c => rfl); (case d => decide); (case e => rfl); (case f => with_reducible assumption)) | (refine' nmK ?C ?b ?c ?d ?e ?f ?_; (case C => exact Fm.cx (by with_reducible assumption) (by with_reducible assumption)); (case b => rfl); (case c => rfl); (case d => rfl); (case e => decide); (case f => k_is)) | (refine' nmB ?C ?b ?c ?c2 ?d ?e ?f ?f2 ?f3 ?_; (case C => exact Fm.cx (by with_reducible assumption) (by with_reducible assumption)); (case b => rfl); (case c => rfl); (case c2 => rfl); (case d => rfl); (case e => decide); (case f => k_is); (case f2 => boot_fast); (case f3 => decide)))) | (((with_reducible show wpAny _ _ (subscriptTail _ _ (Value.ref _) (Value.int _ _)) _ _ _); first | (refine' item_tupleT ?t ?a ?b ?c ?d ?_; (case t => (first | exact Fm.tup (by with_reducible assumption) (by with_reducible assumption) | exact Fm.tupIn (by with_reducible assumption) (by ((repeat (first | exact List.Mem.head _ | refine List.Mem.tail _ ?_ | refine List.mem_append_right _ ?_)))))); (case a => decide); (case b => decide); (case c => rfl); (case d => rfl)))) | (((with_reducible show wpAny _ _ (subscriptTail _ _ (Value.ref _) _) _ _ _); first | ((with_reducible show wpAny _ _ (subscriptTail _ _ _ (Value.str _ _)) _ _ _); refine' ditem (knd := strKind _ _) ?D (strKind_is _ _ _ _) ?l ?_; (case D => (exact Fm.dict (by with_reducible assumption) (by with_reducible assumption))); (case l => first | rfl | assumption)) | ((with_reducible show wpAny _ _ (subscriptTail _ _ _ (Value.int _ _)) _ _ _); refine' ditem (knd := intKind _ _) ?D (intKind_is _ _ _ _) ?l ?_; (case D => (exact Fm.dict (by with_reducible assumption) (by with_reducible assumption))); (case l => first | assumption | rfl)))) | (first | ((with_reducible show wpAny _ _ (getMethod (Value.ref _) (Str.ofString "get") _) _ _ _); refine dmeth (knd := strKind PR _) PySem.F.slot_dict_get PySem.F.type_dict_get (by (exact Fm.dict (by with_reducible assumption) (by with_reducible assumption))) ?_) | ((with_reducible show wpAny _ _ (call (Value.builtin "dict.get") [Value.ref _, Value.str _ _, _]) _ _ _); first | (refine' dgetS (knd := strKind PR _) ?D ?lo (strKind_is _ _ _ _) ?l ?_; (case D => (exact Fm.dict (by with_reducible assumption) (by with_reducible assumption))); (case lo => with_reducible assumption); (case l => rfl)) | (refine' dgetN (knd := strKind PR _) ?D ?lo (strKind_is _ _ _ _) ?l ?_; (case D => (exact Fm.dict (by with_reducible assumption) (by with_reducible assumption))); (case lo => with_reducible assumption); (case l => rfl)))) | (((with_reducible show wpAny _ _ (storeName _ _ _) _ _ _); first | (refine' stL ?F ?a ?b ?c ?_; (case F => with_reducible assumption); (case a => rfl); (case b => rfl); (case c => rfl); intro _ _) | (refine' stC ?F ?b ?c ?d ?U ?e ?_; (case F => with_reducible assumption); (case b => rfl); (case c => rfl); (case d => rfl); (case U => (first | exact At.head | exact At.tail (At.head) | exact At.tail (At.tail (At.head)) | exact At.tail (At.tail (At.tail (At.head))) | exact At.tail (At.tail (At.tail (At.tail (At.head)))) | exact At.tail (At.tail (At.tail (At.tail (At.tail (At.head))))) | exact At.tail (At.tail (At.tail (At.tail (At.tail (At.tail (At.head)))))) | exact At.app (At.head) _ | exact At.app (At.tail (At.head)) _ | exact At.app (At.tail (At.tail (At.head))) _ | exact At.app (At.tail (At.tail (At.tail (At.head)))) _ | exact At.app (At.tail (At.tail (At.tail (At.tail (At.head))))) _ | exact At.tail (At.app (At.head) _) | exact At.tail (At.app (At.tail (At.head)) _) | exact At.tail (At.app (At.tail (At.tail (At.head))) _) | exact At.tail (At.app (At.tail (At.tail (At.tail (At.head)))) _) | exact At.tail (At.app (At.tail (At.tail (At.tail (At.tail (At.head))))) _) | exact At.tail (At.tail (At.app (At.head) _)) | exact At.tail (At.tail (At.app (At.tail (At.head)) _)) | exact At.tail (At.tail (At.app (At.tail (At.tail (At.head))) _)) | exact At.tail (At.tail (At.app (At.tail (At.tail (At.tail (At.head)))) _)) | exact At.tail (At.tail (At.app (At.tail (At.tail (At.tail (At.tail (At.head))))) _)) | exact At.tail (At.tail (At.tail (At.app (At.head) _))) | exact At.tail (At.tail (At.tail (At.app (At.tail (At.head)) _))) | exact At.tail (At.tail (At.tail (At.app (At.tail (At.tail (At.head))) _))) | exact At.tail (At.tail (At.tail (At.app (At.tail (At.tail (At.tail (At.head)))) _))) | exact At.tail (At.tail (At.tail (At.app (At.tail (At.tail (At.tail (At.tail (At.head))))) _))))); (case e => assumption); intro h' o' d' F'; try dsimp only [List.cons_append, List.nil_append] at F'))) | (first | ((with_reducible show wpAny _ _ (callWith _ (Value.builtin _) [] _ _) _ _ _); refine PyProof.Rows.callWith_builtin1 ?_) | ((with_reducible show wpAny _ _ (callWith _ (Value.builtin _) _ _ _) _ _ _); refine callMeth ?_) | ((with_reducible show wpAny _ _ (callWith _ (Value.type _) _ _ _) _ _ _); refine PyProof.Rows.callWith_type1 ?_) | ((with_reducible show wpAny _ _ (callWith _ (Value.ref _) [] _ _) _ _ _); refine' callWith_K (first := []) ?C ?k ?_; (case C => exact Cx.k (by with_reducible assumption)); (case k => k_is)) | ((with_reducible show wpAny _ _ (spliced _) _ _ _); first | refine spliced_more ?_ | refine spliced_nil ?_) | ((with_reducible show Frag.In _ _ ∧ _); refine And.intro (Cx.k (Fm.cx (by with_reducible assumption) (by with_reducible assumption))) ?_)) | (first | ((with_reducible show wpAny _ _ (newTuple _) _ _ _); refine' tupFm ?F ?a ?_; (case F => with_reducible assumption); (case a => (simp [sizeLine_eq])); intro T h' n' x' F') | ((with_reducible show wpAny _ _ (newList _) _ _ _); refine' lstFm ?F ?a ?_; (case F => with_reducible assumption); (case a => (simp [sizeLine_eq])); intro T h' n' x' F') | ((with_reducible show wpAny _ _ (getMethod (Value.ref _) (Str.ofString "append") _) _ _ _); refine' gmAppend ?F ?U ?_; (case F => with_reducible assumption); (case U => (first | exact At.head | exact At.tail (At.head) | exact At.tail (At.tail (At.head)) | exact At.tail (At.tail (At.tail (At.head))) | exact At.tail (At.tail (At.tail (At.tail (At.head)))) | exact At.tail (At.tail (At.tail (At.tail (At.tail (At.head))))) | exact At.tail (At.tail (At.tail (At.tail (At.tail (At.tail (At.head)))))) | exact At.app (At.head) _ | exact At.app (At.tail (At.head)) _ | exact At.app (At.tail (At.tail (At.head))) _ | exact At.app (At.tail (At.tail (At.tail (At.head)))) _ | exact At.app (At.tail (At.tail (At.tail (At.tail (At.head))))) _ | exact At.tail (At.app (At.head) _) | exact At.tail (At.app (At.tail (At.head)) _) | exact At.tail (At.app (At.tail (At.tail (At.head))) _) | exact At.tail (At.app (At.tail (At.tail (At.tail (At.head)))) _) | exact At.tail (At.app (At.tail (At.tail (At.tail (At.tail (At.head))))) _) | exact At.tail (At.tail (At.app (At.head) _)) | exact At.tail (At.tail (At.app (At.tail (At.head)) _)) | exact At.tail (At.tail (At.app (At.tail (At.tail (At.head))) _)) | exact At.tail (At.tail (At.app (At.tail (At.tail (At.tail (At.head)))) _)) | exact At.tail (At.tail (At.app (At.tail (At.tail (At.tail (At.tail (At.head))))) _)) | exact At.tail (At.tail (At.tail (At.app (At.head) _))) | exact At.tail (At.tail (At.tail (At.app (At.tail (At.head)) _))) | exact At.tail (At.tail (At.tail (At.app (At.tail (At.tail (At.head))) _))) | exact At.tail (At.tail (At.tail (At.app (At.tail (At.tail (At.tail (At.head)))) _))) | exact At.tail (At.tail (At.tail (At.app (At.tail (At.tail (At.tail (At.tail (At.head))))) _)))))) | ((with_reducible show wpAny _ _ (call (Value.builtin "list.append") [Value.ref _, _]) _ _ _); refine' appendFm ?F ?U ?a ?_; (case F => with_reducible assumption); (case U => (first | exact At.head | exact At.tail (At.head) | exact At.tail (At.tail (At.head)) | exact At.tail (At.tail (At.tail (At.head))) | exact At.tail (At.tail (At.tail (At.tail (At.head)))) | exact At.tail (At.tail (At.tail (At.tail (At.tail (At.head))))) | exact At.tail (At.tail (At.tail (At.tail (At.tail (At.tail (At.head)))))) | exact At.app (At.head) _ | exact At.app (At.tail (At.head)) _ | exact At.app (At.tail (At.tail (At.head))) _ | exact At.app (At.tail (At.tail (At.tail (At.head)))) _ | exact At.app (At.tail (At.tail (At.tail (At.tail (At.head))))) _ | exact At.tail (At.app (At.head) _) | exact At.tail (At.app (At.tail (At.head)) _) | exact At.tail (At.app (At.tail (At.tail (At.head))) _) | exact At.tail (At.app (At.tail (At.tail (At.tail (At.head)))) _) | exact At.tail (At.app (At.tail (At.tail (At.tail (At.tail (At.head))))) _) | exact At.tail (At.tail (At.app (At.head) _)) | exact At.tail (At.tail (At.app (At.tail (At.head)) _)) | exact At.tail (At.tail (At.app (At.tail (At.tail (At.head))) _)) | exact At.tail (At.tail (At.app (At.tail (At.tail (At.tail (At.head)))) _)) | exact At.tail (At.tail (At.app (At.tail (At.tail (At.tail (At.tail (At.head))))) _)) | exact At.tail (At.tail (At.tail (At.app (At.head) _))) | exact At.tail (At.tail (At.tail (At.app (At.tail (At.head)) _))) | exact At.tail (At.tail (At.tail (At.app (At.tail (At.tail (At.head))) _))) | exact At.tail (At.tail (At.tail (At.app (At.tail (At.tail (At.tail (At.head)))) _))) | exact At.tail (At.tail (At.tail (At.app (At.tail (At.tail (At.tail (At.tail (At.head))))) _))))); (case a => first | (simp [sizeLine_eq]; first | done | omega)); intro h' k' F'; try dsimp only [List.cons_append, List.nil_append] at F')) | ((with_reducible show wpAny _ _ (testChain _ _ _ _) _ _ _); first | refine test_link ?_ | refine test_last ?_) | ((with_reducible show wpAny _ _ (compareChain _ _ _ _) _ _ _); first | refine chain_link ?_ | refine chain_last ?_) | ((with_reducible show wpAny _ _ (exec (Stmt.Expr _ _) _) _ _ _); refine wpAny_Expr_any ?_) | ((with_reducible show wpAny _ _ (exec (Stmt.Assign [Expr.Tuple _ _ _] (Expr.Tuple _ _ _) _) _) _ _ _); refine PyProof.Rows.Assign_Tuple_swapped ?_) | ((with_reducible show wpAny _ _ (exec (Stmt.Assign _ _ _) _) _ _ _); refine wpAny_Assign_Name ?_) | ((with_reducible show wpAny _ _ (isTrue _ _ _) _ _ _); first | refine wpAny_isTrue_Compare1 ?_ | refine isTrue_chain ?_ | refine isTrue_plain ?_) | ((with_reducible show wpAny _ _ (eval (Expr.Compare _ _ _ _) _) _ _ _); first | refine wpAny_Compare1 ?_ | refine Compare_chain ?_) | ((with_reducible show wpAny _ _ (eval (Expr.Call (Expr.Attribute _ _ _) _ _ _) _) _ _ _); refine MethodCall_ ?_) | ((with_reducible show wpAny _ _ (eval (Expr.Call _ _ _ _) _) _ _ _); refine Call_ ?_)) | (first | ((with_reducible show @ite _ _ _ _ _); first | (refine PySem.W.ite_pos (by first | rfl | decide | assumption | (simp; first | done | fail "left")) ?_) | (refine PySem.W.ite_neg (by first | decide | assumption | (simp; first | done | fail "left")) ?_)) | (first | ((with_reducible show wpAny _ _ (compareOp CmpOp.Is _ _) _ _ _); first | refine wpAny_is_self (by rfl) ?_ | refine wpAny_is_other (by rfl) (by intro x; cases x) ?_) | ((with_reducible show wpAny _ _ (compareOp CmpOp.IsNot _ _) _ _ _); first | refine wpAny_isNot_self (by rfl) ?_ | refine wpAny_isNot_other (by rfl) (by intro x; cases x) ?_)) | ((with_reducible show wpAny _ _ (call (Value.builtin "len") [Value.ref _]) _ _ _); refine len_tuple (by (first | exact Fm.tup (by with_reducible assumption) (by with_reducible assumption) | exact Fm.tupIn (by with_reducible assumption) (by ((repeat (first | exact List.Mem.head _ | refine List.Mem.tail _ ?_ | refine List.mem_append_right _ ?_)))))) (by simp) ?_) | dsimp only)))

section
variable {w : World} {A : Around} {s : Shared} {E : Value → Shared → Prop} {Q : Value → Shared → Prop}
theorem neighbour_as {v : Value} {asn : Int} (C : Cx w s.heap) (hdp : A.depth < recursionLimit) (hh : A.handled = none) (R : IsPath s.heap v asn)
    (hQ : ∀ t h' tk, Ext s.heap h' → Q (.int asn t) { s with heap := h', toks := tk }) :
    wpAny (model PR w) A (call (.ref 28) [v]) Q E s := by
  refine' callP (binds := [("path", v)]) C ?k6 ?k7 hdp ?k9 ?kB ?c5 ?_ ?c2 ?c3 ?c4; (((case k6 => k_is); (case k7 => k_is); (case k9 => exact BindsTo.of_eq rfl); (case c5 => decide); (case kB => exact locs rfl); (case c2 => exact rfl); (case c3 => exact rfl); (case c4 => exact rfl)))
  intro L h₁ tk F
  obtain ⟨p, q, r, t1, t2, rfl, hp, hq, hr⟩ := R
  refine wpAny_execs_cons ?_
  refine wpAny_For ?_
  (((with_reducible show wpAny _ _ (eval (Expr.Name _ _) _) _ _ _); first | (refine' nmL ?F ?a ?b ?c ?d ?e ?_; (case F => with_reducible assumption); (case a => rfl); (case b => rfl); (case c => rfl); (case d => decide); (case e => first | rfl | assumption)) | (refine' nmC ?F ?b ?c ?d ?e ?f ?g ?_; (case F => with_reducible assumption); (case b => rfl); (case c => rfl); (case d => decide); (case e => rfl); (case f => ((repeat (first | exact List.Mem.head _ | refine List.Mem.tail _ ?_ | refine List.mem_append_right _ ?_)))); (case g => assumption)) | (refine' nmCB ?F ?b ?c ?d ?e ?f ?_; (case F => with_reducible assumption); (case b => rfl); (case c => rfl); (case d => decide); (case e => rfl); (case f => with_reducible assumption)) | (refine' nmK ?C ?b ?c ?d ?e ?f ?_; (case C => exact Fm.cx (by with_reducible assumption) (by with_reducible assumption)); (case b => rfl); (case c => rfl); (case d => rfl); (case e => decide); (case f => k_is)) | (refine' nmB ?C ?b ?c ?c2 ?d ?e ?f ?f2 ?f3 ?_; (case C => exact Fm.cx (by with_reducible assumption) (by with_reducible assumption)); (case b => rfl); (case c => rfl); (case c2 => rfl); (case d => rfl); (case e => decide); (case f => k_is); (case f2 => boot_fast); (case f3 => decide))))
  refine iterTup (A := A.deeper _) hh F hp (fun i g m news => news = [] ∧ i = 0) ⟨rfl, rfl⟩ ?_ ?_
  · rintro i hi v g₁ m₁ news₁ own h tk hv ⟨rfl, rfl⟩ x F₁
    cases hv
    have C₁ := C.keeps x
    have hr₁ := hr.keeps x
    refine asgTup2 (A := A.deeper _) hh F₁ ((hq.keeps x).keeps F₁.keep) rfl rfl rfl rfl fun h' tk' F₂ => ?_
    walk_at "mes"
    exact hQ _ _ _ (x.trans F₂.keep)
  · rintro g₁ m₁ news₁ h tk ⟨_, hJ⟩
    simp at hJ

theorem path_length {v : Value} {asn : Int} (C : Cx w s.heap) (hdp : A.depth < recursionLimit) (hh : A.handled = none) (R : IsPath s.heap v asn)
    (hQ : ∀ t h' tk, Ext s.heap h' → Q (.int 1 t) { s with heap := h', toks := tk }) :
    wpAny (model PR w) A (call (.ref 21) [v]) Q E s := by
  refine' callP (binds := [("path", v)]) C ?k6 ?k7 hdp ?k9 ?kB ?c5 ?_ ?c2 ?c3 ?c4; (((case k6 => k_is); (case k7 => k_is); (case k9 => exact BindsTo.of_eq rfl); (case c5 => decide); (case kB => exact locs rfl); (case c2 => exact rfl); (case c3 => exact rfl); (case c4 => exact rfl)))
  intro L h₁ tk F
  obtain ⟨p, q, r, t1, t2, rfl, hp, hq, hr⟩ := R
  walk_at "mes"
  refine wpAny_For ?_
  (((with_reducible show wpAny _ _ (eval (Expr.Name _ _) _) _ _ _); first | (refine' nmL ?F ?a ?b ?c ?d ?e ?_; (case F => with_reducible assumption); (case a => rfl); (case b => rfl); (case c => rfl); (case d => decide); (case e => first | rfl | assumption)) | (refine' nmC ?F ?b ?c ?d ?e ?f ?g ?_; (case F => with_reducible assumption); (case b => rfl); (case c => rfl); (case d => decide); (case e => rfl); (case f => ((repeat (first | exact List.Mem.head _ | refine List.Mem.tail _ ?_ | refine List.mem_append_right _ ?_)))); (case g => assumption)) | (refine' nmCB ?F ?b ?c ?d ?e ?f ?_; (case F => with_reducible assumption); (case b => rfl); (case c => rfl); (case d => decide); (case e => rfl); (case f => with_reducible assumption)) | (refine' nmK ?C ?b ?c ?d ?e ?f ?_; (case C => exact Fm.cx (by with_reducible assumption) (by with_reducible assumption)); (case b => rfl); (case c => rfl); (case d => rfl); (case e => decide); (case f => k_is)) | (refine' nmB ?C ?b ?c ?c2 ?d ?e ?f ?f2 ?f3 ?_; (case C => exact Fm.cx (by with_reducible assumption) (by with_reducible assumption)); (case b => rfl); (case c => rfl); (case c2 => rfl); (case d => rfl); (case e => decide); (case f => k_is); (case f2 => boot_fast); (case f3 => decide))))
  rename_i F₀
  refine iterTup (A := A.deeper _) hh F₀ hp (fun i g m news => news = [] ∧ (i = 0 → ∃ t, m "found" = some (.int 0 t)) ∧ (i = 1 → ∃ t, m "found" = some (.int 1 t))) ⟨rfl, fun _ => ⟨_, rfl⟩, fun e => by simp at e⟩ ?_ ?_
  · rintro i hi v g₁ m₁ news₁ own h tk hv ⟨rfl, hm, _⟩ x F₁
    have hi0 : i = 0 := by simpa using hi
    subst hi0
    obtain ⟨tf, hm⟩ := hm rfl
    cases hv
    have C₁ := C.keeps x
    have hr₁ := hr.keeps x
    refine asgTup2 (A := A.deeper _) hh F₁ ((hq.keeps x).keeps F₁.keep) rfl rfl rfl rfl fun h' tk' F₂ => ?_
    walk_at "mes"
    rename_i F₃
    exact ⟨g₁, _, _, _, [], rfl, Ext.refl _, F₃, rfl, fun e => by simp at e, fun _ => ⟨_, rfl⟩⟩
  · rintro g₁ m₁ news₁ h tk ⟨rfl, _, hm⟩ x F₁
    obtain ⟨tf, hm⟩ := hm rfl
    have C₁ := C.keeps x
    walk_at "mes"
    exact hQ _ _ _ (x.trans F₁.keep)

theorem preference_of {a : Addr} {r : Rt} (C : Cx w s.heap) (hdp : A.depth < recursionLimit) (R : IsRoute w s.heap a r)
    (hQ : ∀ t h' tk, Ext s.heap h' → Q (.int 100 t) { s with heap := h', toks := tk }) :
    wpAny (model PR w) A (call (.ref 35) [.ref a]) Q E s := by
  refine' callP (binds := [("route", .ref a)]) C ?k6 ?k7 hdp ?k9 ?kB ?c5 ?_ ?c2 ?c3 ?c4; (((case k6 => k_is); (case k7 => k_is); (case k9 => exact BindsTo.of_eq rfl); (case c5 => decide); (case kB => exact locs rfl); (case c2 => exact rfl); (case c3 => exact rfl); (case c4 => exact rfl)))
  intro L h₁ tk F
  obtain ⟨n8, d, pv, t, R⟩ := R
  have h1 := R.tup
  have h2 := R.attrs
  have h3 := R.lo
  walk_at "mes"
  exact hQ _ _ _ F.keep

theorem med_of {a od : Addr} {b : Bool} {r : Rt} (C : Cx w s.heap) (hdp : A.depth < recursionLimit) (R : IsRoute w s.heap a r) (O : IsOpts w s.heap od b)
    (hQ : ∀ t h' tk, Ext s.heap h' → Q (.int r.med t) { s with heap := h', toks := tk }) :
    wpAny (model PR w) A (call (.ref 42) [.ref a, .ref od]) Q E s := by
  refine' callP (binds := [("route", .ref a), ("options", .ref od)]) C ?k6 ?k7 hdp ?k9 ?kB ?c5 ?_ ?c2 ?c3 ?c4; (((case k6 => k_is); (case k7 => k_is); (case k9 => exact BindsTo.of_eq rfl); (case c5 => decide); (case kB => exact locs rfl); (case c2 => exact rfl); (case c3 => exact rfl); (case c4 => exact rfl)))
  intro L h₁ tk F
  obtain ⟨n8, d, pv, t, R⟩ := R
  obtain ⟨h4, h5⟩ := O
  have h1 := R.tup
  have h2 := R.attrs
  have h3 := R.lo
  walk_at "mes"
  exact hQ _ _ _ F.keep

theorem is_from_outside {a pd : Addr} {r : Rt} (C : Cx w s.heap) (hdp : A.depth < recursionLimit) (R : IsRoute w s.heap a r) (P : HasPeer w s.heap pd r.num)
    (hQ : ∀ h' tk, Ext s.heap h' → Q (.bool true) { s with heap := h', toks := tk }) :
    wpAny (model PR w) A (call (.ref 49) [.ref a, .ref pd]) Q E s := by
  refine' callP (binds := [("route", .ref a), ("peers", .ref pd)]) C ?k6 ?k7 hdp ?k9 ?kB ?c5 ?_ ?c2 ?c3 ?c4; (((case k6 => k_is); (case k7 => k_is); (case k9 => exact BindsTo.of_eq rfl); (case c5 => decide); (case kB => exact locs rfl); (case c2 => exact rfl); (case c3 => exact rfl); (case c4 => exact rfl)))
  intro L h₁ tk F
  obtain ⟨n8, d, pv, t, R⟩ := R
  obtain ⟨kvs, p, v, t0, t1, t2, h4, h5, h6, h7⟩ := P
  have h1 := R.tup
  walk_at "mes"
  exact (by decide : (("ebgp" : Str) == "ebgp") = true) ▸ hQ _ _ F.keep

theorem teller_id {a pd : Addr} {r : Rt} (C : Cx w s.heap) (hdp : A.depth < recursionLimit) (R : IsRoute w s.heap a r) (P : HasPeer w s.heap pd r.num)
    (hQ : ∀ t h' tk, Ext s.heap h' → Q (.int r.num t) { s with heap := h', toks := tk }) :
    wpAny (model PR w) A (call (.ref 56) [.ref a, .ref pd]) Q E s := by
  refine' callP (binds := [("route", .ref a), ("peers", .ref pd)]) C ?k6 ?k7 hdp ?k9 ?kB ?c5 ?_ ?c2 ?c3 ?c4; (((case k6 => k_is); (case k7 => k_is); (case k9 => exact BindsTo.of_eq rfl); (case c5 => decide); (case kB => exact locs rfl); (case c2 => exact rfl); (case c3 => exact rfl); (case c4 => exact rfl)))
  intro L h₁ tk F
  obtain ⟨n8, d, pv, t, R⟩ := R
  obtain ⟨kvs, p, v, t0, t1, t2, h4, h5, h6, h7⟩ := P
  have h1 := R.tup
  have h2 := R.attrs
  have h3 := R.lo
  walk_at "mes"
  exact hQ _ _ _ F.keep

theorem teller_address {a pd : Addr} {r : Rt} (C : Cx w s.heap) (hdp : A.depth < recursionLimit) (R : IsRoute w s.heap a r) (P : HasPeer w s.heap pd r.num)
    (hQ : ∀ t h' tk, Ext s.heap h' → Q (.int (20 - r.num) t) { s with heap := h', toks := tk }) :
    wpAny (model PR w) A (call (.ref 63) [.ref a, .ref pd]) Q E s := by
  refine' callP (binds := [("route", .ref a), ("peers", .ref pd)]) C ?k6 ?k7 hdp ?k9 ?kB ?c5 ?_ ?c2 ?c3 ?c4; (((case k6 => k_is); (case k7 => k_is); (case k9 => exact BindsTo.of_eq rfl); (case c5 => decide); (case kB => exact locs rfl); (case c2 => exact rfl); (case c3 => exact rfl); (case c4 => exact rfl)))
  intro L h₁ tk F
  obtain ⟨n8, d, pv, t, R⟩ := R
  obtain ⟨kvs, p, v, t0, t1, t2, h4, h5, h6, h7⟩ := P
  have h1 := R.tup
  walk_at "mes"
  exact hQ _ _ _ F.keep
end

abbrev testsOf (ifs : List Expr) (env : Env) : Sem Bool := forIn ifs true fun c r => if r = true then do let ok ← isTrue c env (eval c env); pure (ForInStep.yield ok) else pure (ForInStep.yield r)
abbrev no : Value → Shared → Prop := fun _ _ => False
section
variable {prog : Program} {w : World} {A : Around} {E : Value → Shared → Prop} {s : Shared}
theorem wpNo {α : Type} {t : Sem α} {Q : α → Shared → Prop} (h : wpAny (model prog w) A t Q no s) : wpAny (model prog w) A t Q E s := wpAny_mono h (fun _ _ q => q) fun _ _ f => f.elim

theorem compLoop {elt target iter : Expr} {ifs : List Expr} {scope : Scope} {pos : Pos} {it acc : Value} {env : Env} {R : Result → Shared → Prop} (I : Nat → Shared → Prop)
    (turn : ∀ n s, I n s → wpAny (model prog w) A (pyNext it) (fun r s₁ => match r with
      | none => R (.ok .next) s₁
      | some v => wpAny (model prog w) A (letOwnedTupleGo target it v) (fun _ s₀ => wpAny (model prog w) A (assign target env v) (fun _ s₂ =>
          wpAny (model prog w) A (testsOf ifs env) (fun ok s₃ => if ok = true then wpAny (model prog w) A (eval elt env) (fun x s₄ =>
            wpAny (model prog w) A (call (.builtin "list.append") [acc, x]) (fun _ s₅ => ∃ m, m < n ∧ I m s₅) no s₄) no s₃
            else ∃ m, m < n ∧ I m s₃) no s₂) no s₀) no s₁) no s)
    (n : Nat) (h : I n s) : codeAny (model prog w) A (.compLoop (.ListComp elt [⟨target, iter, ifs, 0⟩] scope pos) 0 it acc env) R s := by
  refine codeAny_loop rfl I (fun n s hI => ?_) n h
  show wpAny _ A ((compTurn (.ListComp elt [⟨target, iter, ifs, 0⟩] scope pos) 0 it acc env).onRaise (fun x => do noteFrame x env; theTreesLotGoes x)) _ _ s
  refine wpAny_noted ?_
  rw [compTurn_list]
  refine wpAny_bind (wpAny_standAt (wpAny_bind (wpNo (wpAny_mono (turn n s hI) (fun r s₁ h₁ => ?_) fun _ _ h' => h'))))
  cases r with
  | none => exact wpAny_pure h₁
  | some v =>
    refine wpAny_bind (wpNo (wpAny_mono h₁ (fun _ s₀ h₀' => ?_) fun _ _ h' => h'))
    refine wpAny_bind (wpNo (wpAny_mono h₀' (fun _ s₂ h₂ => ?_) fun _ _ h' => h'))
    refine wpAny_bind (wpNo (wpAny_mono h₂ (fun okb s₃ h₃ => ?_) fun _ _ h' => h'))
    cases okb with
    | false => exact wpAny_pure ⟨rfl, h₃⟩
    | true => exact wpAny_bind (wpAny_bind (wpNo (wpAny_mono h₃ (fun x s₄ h₄ => wpAny_bind (wpNo (wpAny_mono h₄ (fun _ s₅ h₅ => wpAny_pure (wpAny_pure ⟨rfl, h₅⟩)) fun _ _ h' => h'))) fun _ _ h' => h')))
end

/-- one loop's state between the turns -/
def LInv (s : Shared) (g : Heap) (L : Addr) (wr : List Addr) (St : Nat → Heap → Prop) (J : Nat → Heap → (Str → Option Value) → List (Addr × Obj) → Prop) (i : Nat) (s' : Shared) : Prop :=
  ∃ g₁ h₁ tk m₁ news₁, s' = { s with heap := h₁, toks := tk } ∧ St i h₁ ∧ Ext g g₁ ∧ Fm g₁ L h₁ m₁ news₁ ∧ (∀ b ∈ wr, b ≠ L ∧ g₁.get? b = none ∧ b ∉ news₁.map (·.1)) ∧ J i g₁ m₁ news₁
section
variable {prog : Program} {w : World} {A : Around} {E : Value → Shared → Prop} {s : Shared} {target : Expr}
theorem LInv.turn {s' : Shared} {Z : Option Value → Shared → Prop} {X : Value → Shared → Prop} {g : Heap} {L : Addr} {I : Addr} {fp wr : List Addr} {n : Nat} {P Md : Nat → Value → Heap → Prop} {St : Nat → Heap → Prop}
    {J : Nat → Heap → (Str → Option Value) → List (Addr × Obj) → Prop}
    (W : KTurns prog w A target I fp wr n P Md St) (hwn : wr.Nodup) (hlive : ∀ i h, St i h → ∀ b ∈ wr, ∃ o, h.get? b = some o) (hfp : ∀ b ∈ fp, b ∈ wr ∨ ∃ o, g.get? b = some o) {i : Nat} (h : LInv s g L wr St J i s')
    (hZ : ∀ v s₁, wpAny (model prog w) A (letOwnedTupleGo target (.ref I) v) (fun _ s₀ => X v s₀) no s₁ → Z (some v) s₁)
    (go : i < n → ∀ v g₁ m₁ news₁ own h tk, P i v h → J i g₁ m₁ news₁ → Ext g g₁ → Fm g₁ L h m₁ (own ++ news₁) →
      (∀ g₂ h' tk' m₂ news₂, Ext g₁ g₂ → Fm g₂ L h' m₂ (own ++ news₂) → J (i + 1) g₂ m₂ news₂ → LInv s g L wr St J (i + 1) { s with heap := h', toks := tk' }) → X v { s with heap := h, toks := tk })
    (hi : i ≤ n)
    (stop : i = n → ∀ g₁ m₁ news₁ h tk, J n g₁ m₁ news₁ → Ext g g₁ → Fm g₁ L h m₁ news₁ → Z none { s with heap := h, toks := tk }) :
    wpAny (model prog w) A (pyNext (.ref I)) Z no s' := by
  obtain ⟨g₁, h₁, tk, m₁, news₁, rfl, hst₁, x₁, F₁, hwr₁, hJ⟩ := h
  have hL : L ∉ wr := fun hm => (hwr₁ L hm).1 rfl
  by_cases hlt : i < n
  · refine W.item i _ _ _ hlt hst₁ fun v h₂ tk₂ hMd hk₂ => hZ _ _ ?_
    refine W.go i v _ _ _ hMd fun h₃ hP hst₃ hk₃ => ?_
    have hk : ∀ b o, b ∉ wr → h₁.get? b = some o → h₃.get? b = some o := fun b o hb e => hk₃ b o hb (hk₂ b o hb e)
    have hw := hlive _ _ hst₃
    have mk : ∀ ws : List Addr, (∀ b ∈ ws, ∃ o, h₃.get? b = some o) → ∃ own' : List (Addr × Obj), own'.map (·.1) = ws ∧ ∀ p ∈ own', h₃.get? p.1 = some p.2 := by
      intro ws
      induction ws with
      | nil => exact fun _ => ⟨[], rfl, fun _ h => nomatch h⟩
      | cons b r ih =>
        intro hb
        obtain ⟨o, ho⟩ := hb b (.head _)
        obtain ⟨own', e, k⟩ := ih fun c hc => hb c (.tail _ hc)
        refine ⟨(b, o) :: own', by rw [List.map_cons, e], fun p hp => ?_⟩
        rcases List.mem_cons.mp hp with rfl | hp
        · exact ho
        · exact k p hp
    obtain ⟨own', e', k⟩ := mk wr hw
    have F₃ : Fm g₁ L h₃ m₁ (own' ++ news₁) := by
      refine ⟨F₁.ns.at' fun o q => hk _ o hL q, fun b o q => hk b o (fun hb => by rw [(hwr₁ b hb).2.1] at q; cases q) (F₁.keep b o q), fun p hp => ?_, F₁.off, ?_⟩
      · rcases List.mem_append.mp hp with hp | hp
        · have hpw : p.1 ∈ wr := e' ▸ List.mem_map_of_mem hp
          exact ⟨k p hp, (hwr₁ _ hpw).1, (hwr₁ _ hpw).2.1⟩
        · have := F₁.new p hp
          exact ⟨hk _ _ (fun hb => (hwr₁ _ hb).2.2 (List.mem_map_of_mem hp)) this.1, this.2⟩
      · rw [List.map_append, e', List.nodup_append]
        exact ⟨hwn, F₁.sep, fun a ha b hb q => (hwr₁ a ha).2.2 (q ▸ hb)⟩
    refine go hlt v g₁ m₁ news₁ own' h₃ tk₂ hP hJ x₁ F₃ ?_
    rintro g₂ h' tk' m₂ news₂ x₂ F₄ hJ'
    refine ⟨g₂, h', tk', m₂, news₂, rfl, W.frame _ _ _ hst₃ (fun b hb o e => ?_), x₁.trans x₂, F₄.right, fun b hb => ?_, hJ'⟩
    · rcases hfp b hb with hbw | ⟨o', ho'⟩
      · rw [← e'] at hbw
        obtain ⟨p, hp, q⟩ := List.mem_map.mp hbw
        have h1 := (F₃.new p (List.mem_append_left _ hp)).1
        have h2 := (F₄.new p (List.mem_append_left _ hp)).1
        rw [q, e] at h1
        rw [q] at h2
        exact h2.trans h1.symm
      · have h1 := F₃.keep _ _ (x₁ _ _ ho')
        have h2 := F₄.keep _ _ (x₂ _ _ (x₁ _ _ ho'))
        rw [e] at h1
        exact h2.trans h1.symm
    · have hsep := F₄.sep
      rw [List.map_append, List.nodup_append, e'] at hsep
      have hb' := hb
      rw [← e'] at hb'
      obtain ⟨p, hp, q⟩ := List.mem_map.mp hb'
      have h2 := F₄.new p (List.mem_append_left _ hp)
      rw [q] at h2
      exact ⟨h2.2.1, h2.2.2, fun hm => hsep.2.2 b hb b hm rfl⟩
  · have hin : i = n := by omega
    subst hin
    refine W.done _ _ _ hst₁ fun h₂ tk₂ hk₂ => ?_
    refine stop rfl g₁ m₁ news₁ h₂ tk₂ hJ x₁ ⟨F₁.ns.at' fun o q => hk₂ _ o hL q, fun b o q => hk₂ b o (fun hb => by rw [(hwr₁ b hb).2.1] at q; cases q) (F₁.keep b o q), fun p hp => ?_, F₁.off, F₁.sep⟩
    have := F₁.new p hp
    exact ⟨hk₂ _ _ (fun hb => (hwr₁ _ hb).2.2 (List.mem_map_of_mem hp)) this.1, this.2⟩
end

inductive Outs (Out : Nat → Heap → Value → Prop) (ok : Nat → Bool) (h : Heap) : Nat → List Value → Prop
  | nil : Outs Out ok h 0 []
  | skip {i ys} : ok i = false → Outs Out ok h i ys → Outs Out ok h (i + 1) ys
  | snoc {i ys y} : ok i = true → Outs Out ok h i ys → Out i h y → Outs Out ok h (i + 1) (ys ++ [y])
theorem Outs.mono {Out : Nat → Heap → Value → Prop} {ok : Nat → Bool} {h h' : Heap} (k : ∀ i y, Out i h y → Out i h' y) : ∀ {i ys}, Outs Out ok h i ys → Outs Out ok h' i ys
  | _, _, .nil => .nil
  | _, _, .skip a b => .skip a (b.mono k)
  | _, _, .snoc a b c => .snoc a (b.mono k) (k _ _ c)
theorem Outs.len {Out : Nat → Heap → Value → Prop} {ok : Nat → Bool} {h : Heap} : ∀ {i ys}, Outs Out ok h i ys → ys.length ≤ i
  | _, _, .nil => Nat.le_refl _
  | _, _, .skip a b => Nat.le_succ_of_le b.len
  | _, _, .snoc a b c => by simp only [List.length_append, List.length_cons, List.length_nil]; exact Nat.succ_le_succ b.len

/-- what a comprehension's turn must do -/
def CompTurn (prog : Program) (w : World) (A : Around) (cenv : Addr → Env) (ifs : List Expr) (elt target : Expr) (s : Shared) (wr : List Addr) (P : Value → Heap → Prop) (ok : Bool) (Out : Heap → Value → Prop) : Prop :=
  ∀ v C g₁ m₁ h tk led, (∀ b o, b ∉ wr → s.heap.get? b = some o → g₁.get? b = some o) → P v h → Fm g₁ C h m₁ led →
    wpAny (model prog w) A (assign target (cenv C) v) (fun _ s₂ => wpAny (model prog w) A (testsOf ifs (cenv C)) (fun o s₃ => o = ok ∧
        (ok = false → ∃ g₂ h' tk' m₂, s₃ = { s with heap := h', toks := tk' } ∧ Ext g₁ g₂ ∧ Fm g₂ C h' m₂ led) ∧
        (ok = true → wpAny (model prog w) A (eval elt (cenv C)) (fun y s₄ => ∃ g₂ h' tk' m₂, s₄ = { s with heap := h', toks := tk' } ∧ Ext g₁ g₂ ∧ Fm g₂ C h' m₂ led ∧ Out g₂ y) no s₃)) no s₂) no { s with heap := h, toks := tk }

section
variable {prog : Program} {w : World} {A : Around} {E : Value → Shared → Prop} {s : Shared} {env : Env}
theorem compBlock {elt iter target : Expr} {ifs : List Expr} {scope : Scope} {cl : List (Str × Addr)} {pos : Pos} {I : Addr} {fp wr : List Addr} {n : Nat} {P Md : Nat → Value → Heap → Prop} {St : Nat → Heap → Prop} {RR : Value → Addr → Result → Shared → Prop}
    (W : KTurns prog w A target I fp wr n P Md St) (hwn : wr.Nodup) (hlive : ∀ i h, St i h → ∀ b ∈ wr, ∃ o, h.get? b = some o) (hsz : n ≤ sizeLine)
    (hself : ∀ (s : Shared) (Q : Value → Shared → Prop) (E : Value → Shared → Prop), St 0 s.heap → Q (.ref I) s → wpAny (model prog w) A (pyIter (.ref I)) Q E s)
    (hst : St 0 s.heap) (hfpa : ∀ b ∈ fp, ∃ o, s.heap.get? b = some o)
    (hcell : ∀ y ∈ scope.names, y.2 ≠ .cell) (hkind : scope.kind = .function)
    (ok : Nat → Bool) (Out : Nat → Heap → Value → Prop) (hOut : ∀ i g g' y, Ext g g' → Out i g y → Out i g' y)
    (turn : ∀ i, i < n → CompTurn prog w A (fun C => compEnvC scope cl C env) ifs elt target s wr (P i) (ok i) (Out i))
    (hRR : ∀ D C h' tk m' ys k gF, s.heap.get? D = none → s.heap.get? C = none → D ≠ C → h'.Ns C m' → h'.get? D = some (listOf ys.toArray k) → Outs Out ok gF n ys → Ext gF h' → gF.get? C = none → (∀ b o, b ∉ wr → s.heap.get? b = some o → h'.get? b = some o) → RR (.ref D) C (.ok .next) { s with heap := h', toks := tk }) :
    wpAny (model prog w) A (newList []) (fun acc s₃ => wpAny (model prog w) A (newFunctionEnv scope env.globals cl [] env.qual none .none (some env)) (fun cenv s₄ =>
      codeAny (model prog w) A (.compStart (.ListComp elt [⟨target, iter, ifs, 0⟩] scope pos) 0 (.ref I) acc { cenv with scope := relabel scope env }) (RR acc cenv.locals) s₄) E s₃) E s := by
  refine wpAny_newObj_type (wpAny_newFunctionEnv hcell (by intro y hy; simp at hy) (fun h₁ hns₁ hsb₁ => ?_) hkind)
  dsimp only at hns₁ hsb₁ ⊢
  generalize hH2 : s.heap.push { cls := .type "list", dict := none, data := .seq ([] : List Value).toArray } = H2 at hns₁ hsb₁ ⊢
  have hC : H2.objs.size = s.heap.objs.size + 1 := by rw [← hH2, Heap.size_push]
  have hDC : s.heap.objs.size ≠ H2.objs.size := by rw [hC]; exact Nat.ne_of_lt (Nat.lt_succ_self _)
  have below : ∀ b, b < s.heap.objs.size → b ≠ H2.objs.size ∧ b ≠ s.heap.objs.size := fun b hb => ⟨by rw [hC]; exact Nat.ne_of_lt (Nat.lt_succ_of_lt hb), Nat.ne_of_lt hb⟩
  have old : ∀ b o, s.heap.get? b = some o → h₁.get? b = some o := fun b o e => hsb₁.extBut b o (below b (Heap.lt_size e)).1 (Heap.get?_push_of_some _ (hH2 ▸ Heap.get?_push_of_some _ e))
  have hacc : h₁.get? s.heap.objs.size = some (listOf #[] 0) := hsb₁.extBut _ _ hDC (Heap.get?_push_of_some _ (hH2 ▸ Heap.get?_push_size _ rfl))
  have fresh : ∀ a, s.heap.objs.size ≤ a → s.heap.get? a = none := fun a ha => by
    cases e : s.heap.get? a with
    | none => rfl
    | some o' => exact absurd (Heap.lt_size e) (Nat.not_lt.mpr ha)
  have hst₁ : St 0 h₁ := W.frame _ _ _ hst fun b _ o e => old b o e
  generalize hD : s.heap.objs.size = D at *
  generalize hCa : H2.objs.size = C at *
  have hD₀ : s.heap.get? D = none := fresh _ (Nat.le_refl _)
  have hC₀ : s.heap.get? C = none := fresh _ (by rw [hC]; exact Nat.le_succ _)
  -- the base: all but the iterator's own
  have hgC : ∀ b o, b ∉ wr → s.heap.get? b = some o → (hideAll s.heap wr).get? b = some o := fun b o hb e => hideAll_get _ e hb
  have hgn : ∀ b, b ∈ wr → (hideAll s.heap wr).get? b = none := fun b hb => hideAll_none _ hb
  have hgs : ∀ b o, (hideAll s.heap wr).get? b = some o → s.heap.get? b = some o := fun b o e => of_hideAll _ e
  generalize hideAll s.heap wr = gC at *
  have hwrC : ∀ b ∈ wr, b ≠ C ∧ b ≠ D := fun b hb => by
    obtain ⟨o, ho⟩ := hfpa b (W.sub b hb)
    exact ⟨fun e => (by rw [e, hC₀] at ho; cases ho), fun e => (by rw [e, hD₀] at ho; cases ho)⟩
  have F₀ : Fm gC C h₁ (fun x => ([] : List (Str × Value)).reverse.lookup x) [(D, listOf #[] 0)] := by
    refine ⟨hns₁, fun b o e => old b o (hgs b o e), fun p hp => ?_, ?_, by simp⟩
    · rw [List.mem_singleton.mp hp]
      refine ⟨hacc, hDC, ?_⟩
      cases e : gC.get? D with
      | none => rfl
      | some o => have := hgs _ _ e; rw [hD₀] at this; cases this
    · cases e : gC.get? C with
      | none => rfl
      | some o => have := hgs _ _ e; rw [hC₀] at this; cases this
  have hfp : ∀ b ∈ fp, b ∈ wr ∨ ∃ o, gC.get? b = some o := fun b hb => by
    by_cases hw : b ∈ wr
    · exact .inl hw
    · obtain ⟨o, ho⟩ := hfpa b hb
      exact .inr ⟨o, hgC b o hw ho⟩
  have loop : ∀ s₃ : Shared, s₃ = { s with heap := h₁, toks := s.toks + ([] : List (Str × Value)).length } →
      codeAny (model prog w) A (.compLoop (.ListComp elt [⟨target, iter, ifs, 0⟩] scope pos) 0 (.ref I) (.ref D) (compEnvC scope cl C env)) (RR (.ref D) C) s₃ := by
    rintro s₃ rfl
    refine compLoop (fun k s' => ∃ i, i ≤ n ∧ k = n + 1 - i ∧ LInv s gC C wr St (fun i g₁ m₁ news₁ => ∃ ys k, news₁ = [(D, listOf ys.toArray k)] ∧ Outs Out ok g₁ i ys) i s') ?_ (n + 1)
      ⟨0, Nat.zero_le _, rfl, gC, h₁, _, _, _, rfl, hst₁, Ext.refl _, F₀, fun b hb => ⟨(hwrC b hb).1, hgn b hb, by simp only [List.map_cons, List.map_nil, List.mem_singleton]; exact (hwrC b hb).2⟩, [], 0, rfl, .nil⟩
    rintro k s' ⟨i, hi, rfl, hL⟩
    refine hL.turn W hwn hlive hfp (X := fun v s₀ => wpAny (model prog w) A (assign target (compEnvC scope cl C env) v) _ no s₀) (fun v s₁ h => h) ?_ hi ?_
    · rintro hlt v g₁ m₁ news₁ own h tk hP ⟨ys, k, rfl, hys⟩ x₁ F₁ back
      refine wpAny_mono (turn i hlt v C g₁ m₁ h tk _ (fun b o hb e => x₁ _ _ (hgC b o hb e)) hP F₁) (fun _ s₂ h₂ => wpAny_mono h₂ (fun o s₃ h₃ => ?_) fun _ _ q => q) fun _ _ q => q
      obtain ⟨rfl, hf, ht⟩ := h₃
      cases hoki : ok i with
      | false =>
        obtain ⟨g₂, h', tk', m₂, rfl, x₂, F₂⟩ := hf hoki
        show ∃ m, _ ∧ _
        exact ⟨n + 1 - (i + 1), by omega, i + 1, hlt, rfl, back g₂ h' tk' m₂ _ x₂ F₂ ⟨ys, k, rfl, .skip hoki (hys.mono fun i y => hOut i _ _ y x₂)⟩⟩
      | true =>
        show wpAny _ _ _ _ _ _
        refine wpAny_mono (ht hoki) (fun y s₄ h₄ => ?_) fun _ _ q => q
        obtain ⟨g₂, h', tk', m₂, rfl, x₂, F₂, hy⟩ := h₄
        have hlen : ys.length ≤ n := Nat.le_trans hys.len (Nat.le_of_lt hlt)
        have U : At D (listOf ys.toArray k) (own ++ [(D, listOf ys.toArray k)]) (fun o' => own ++ [(D, o')]) := At.app .head own
        refine wpAny_list_append_plain (items := ys.toArray) ⟨_, F₂.get U.mem⟩ (fun h₅ hl₅ hs₅ => ?_) (by simp only [List.size_toArray]; omega)
        obtain ⟨k₅, ho₅⟩ := hl₅
        rw [List.push_toArray] at ho₅
        exact ⟨n + 1 - (i + 1), by omega, i + 1, hlt, rfl, back g₂ h₅ tk' m₂ _ x₂ (F₂.upd U hs₅ ho₅) ⟨ys ++ [y], k₅, rfl, .snoc hoki (hys.mono fun i y => hOut i _ _ y x₂) hy⟩⟩
    · rintro rfl g₁ m₁ news₁ h tk ⟨ys, k, rfl, hys⟩ x₁ F₁
      exact hRR D C h tk _ ys k g₁ hD₀ hC₀ hDC F₁.ns (F₁.get (.head _)) hys F₁.keep F₁.off fun b o hb e => F₁.keep _ _ (x₁ _ _ (hgC b o hb e))
  exact codeAny_compStart_list (loop _ rfl) (hself _ _ _ hst₁ (loop _ rfl))

/-- what the comprehension leaves to its frame -/
theorem Fm.but {g h h' : Heap} {L : Addr} {m : Str → Option Value} {news : List (Addr × Obj)} {wr : List Addr} (F : Fm g L h m news) (hwr : ∀ b ∈ wr, b ≠ L ∧ g.get? b = none ∧ b ∉ news.map (·.1))
    (k : ∀ b o, b ∉ wr → h.get? b = some o → h'.get? b = some o) : Fm g L h' m news :=
  ⟨F.ns.at' fun o q => k _ o (fun hm => (hwr _ hm).1 rfl) q, fun b o q => k b o (fun hb => by rw [(hwr b hb).2.1] at q; cases q) (F.keep b o q),
    fun p hp => ⟨k _ _ (fun hb => (hwr _ hb).2.2 (List.mem_map_of_mem hp)) (F.new p hp).1, (F.new p hp).2⟩, F.off, F.sep⟩

/-- a source: something that has been made for iterating -/
structure Src (prog : Program) (w : World) (A : Around) (target : Expr) (s : Shared) (I : Addr) (fp wr : List Addr) (n : Nat) (P Md : Nat → Value → Heap → Prop) (St : Nat → Heap → Prop) : Prop where
  W : KTurns prog w A target I fp wr n P Md St
  nd : wr.Nodup
  live : ∀ i h, St i h → ∀ b ∈ wr, ∃ o, h.get? b = some o
  self : ∀ (s : Shared) (Q : Value → Shared → Prop) (E : Value → Shared → Prop), St 0 s.heap → Q (.ref I) s → wpAny (model prog w) A (pyIter (.ref I)) Q E s
  st : St 0 s.heap
  fpa : ∀ b ∈ fp, ∃ o, s.heap.get? b = some o

section
variable {g : Heap} {L : Addr} {m : Str → Option Value} {news : List (Addr × Obj)} {scope : Scope} {cl : List (Str × Addr)} {elt iter target : Expr} {ifs : List Expr} {pos : Pos}
/-- a list comprehension, its source evaluated by hand -/
theorem evComp {Q : Value → Shared → Prop}
    (h : wpAny (model prog w) A (eval iter env) (fun xv s₁ => wpAny (model prog w) A (pyIter xv) (fun it s₂ => ∃ I fp wr n P Md St ok Out g m news, it = .ref I ∧ Src prog w A target s₂ I fp wr n P Md St ∧ n ≤ sizeLine ∧
      Fm g L s₂.heap m news ∧ (∀ b ∈ wr, b ≠ L ∧ g.get? b = none ∧ b ∉ news.map (·.1)) ∧ (∀ i g g' y, Ext g g' → Out i g y → Out i g' y) ∧
      (∀ i, i < n → CompTurn prog w A (fun C => compEnvC scope cl C env) ifs elt target s₂ wr (P i) (ok i) (Out i)) ∧
      ∀ D h' tk ys k, s₂.heap.get? D = none → Outs Out ok h' n ys → (∀ b o, b ∉ wr → s₂.heap.get? b = some o → h'.get? b = some o) → Fm g L h' m ((D, listOf ys.toArray k) :: news) → Q (.ref D) { s₂ with heap := h', toks := tk }) E s₁) E s)
    (hclos : closureFor scope env = pure cl) (hcell : ∀ y ∈ scope.names, y.2 ≠ .cell) (hkind : scope.kind = .function)
    (hnames : ∀ y ∈ scope.names, y.2 = .local → scope.names.lookup y.1 = some .local)
    (hs : ∀ x, foldedSetIterable iter env x = pure x := by intro _; rfl) :
    wpAny (model prog w) A (eval (.ListComp elt [⟨target, iter, ifs, 0⟩] scope pos) env) Q E s := by
  rw [eval_ListComp]
  refine wpAny_comprehension_free (use := none) rfl hs hclos hkind hnames (wpAny_mono h (fun xv s₁ h₁ => wpAny_mono h₁ (fun it s₂ h₂ => ?_) fun _ _ e => e) fun _ _ e => e)
  obtain ⟨I, fp, wr, n, P, Md, St, ok, Out, g, m, news, rfl, S, hsz, F, hwr, hOut, turn, hQ⟩ := h₂
  refine compBlock (RR := fun acc C => compPost (model prog w) A E none Q acc C) S.W S.nd S.live hsz S.self S.st S.fpa hcell hkind ok Out hOut turn ?_
  intro D C h' tk m' ys k gF hD hC hDC hn hDo hys hgF hgC hk
  refine ⟨m', hn, fun h'' hs'' => ?_⟩
  have hk'' : ∀ b o, b ∉ wr → s₂.heap.get? b = some o → h''.get? b = some o := fun b o hb e => hs''.extBut b o (fun q => by rw [q, hC] at e; cases e) (hk b o hb e)
  have F' := F.but hwr hk''
  refine hQ D h'' tk ys k hD (hys.mono fun i y => hOut i _ _ y fun b o e => hs''.extBut b o (fun q => by rw [q, hgC] at e; cases e) (hgF b o e)) hk'' ⟨F'.ns, F'.keep, fun p hp => ?_, F'.off, ?_⟩
  · rcases List.mem_cons.mp hp with rfl | hp
    · refine ⟨hs''.extBut _ _ hDC hDo, fun e => ?_, ?_⟩
      · obtain ⟨o, _, _, ho, _⟩ := F.ns
        have e' : D = L := e
        rw [← e', hD] at ho; cases ho
      · cases e : g.get? D with
        | none => rfl
        | some o => have := F.keep _ _ e; rw [hD] at this; cases this
    · exact F'.new p hp
  · rw [List.map_cons, List.nodup_cons]
    refine ⟨fun hm => ?_, F'.sep⟩
    obtain ⟨p, hp, e⟩ := List.mem_map.mp hm
    have := (F.new p hp).1
    rw [e, hD] at this; cases this

/-- the same, bound to a name of the frame's -/
theorem asComp {Q : Flow → Shared → Prop} {y : Str} {py spos : Pos}
    (h : wpAny (model prog w) A (eval iter env) (fun xv s₁ => wpAny (model prog w) A (pyIter xv) (fun it s₂ => ∃ I fp wr n P Md St ok Out g m news, it = .ref I ∧ Src prog w A target s₂ I fp wr n P Md St ∧ n ≤ sizeLine ∧
      Fm g L s₂.heap m news ∧ (∀ b ∈ wr, b ≠ L ∧ g.get? b = none ∧ b ∉ news.map (·.1)) ∧ (∀ i g g' y, Ext g g' → Out i g y → Out i g' y) ∧
      (∀ i, i < n → CompTurn prog w A (fun C => compEnvC scope cl C env) ifs elt target s₂ wr (P i) (ok i) (Out i)) ∧
      ∀ D h' tk ys k, s₂.heap.get? D = none → (∃ gF, Outs Out ok gF n ys) → (∀ b o, b ∉ wr → b ≠ L → s₂.heap.get? b = some o → h'.get? b = some o) → Fm g L h' (fun z => if z = y then some (.ref D) else m z) ((D, listOf ys.toArray k) :: news) → Q .next { s₂ with heap := h', toks := tk }) E s₁) E s)
    (hsw : swapsWith (.ListComp elt [⟨target, iter, ifs, 0⟩] scope pos) (some (.Name y py)) spos.line env = pure true)
    (hclos : closureFor scope env = pure cl) (hcell : ∀ y ∈ scope.names, y.2 ≠ .cell) (hkind : scope.kind = .function)
    (hnames : ∀ y ∈ scope.names, y.2 = .local → scope.names.lookup y.1 = some .local)
    (hL : env.locals = L) (hke : env.scope.kind = .function) (hy : env.kindOf y = some .local)
    (hs : ∀ x, foldedSetIterable iter env x = pure x := by intro _; rfl) :
    wpAny (model prog w) A (exec (.Assign [.Name y py] (.ListComp elt [⟨target, iter, ifs, 0⟩] scope pos) spos) env) Q E s := by
  rw [exec_Assign_Name_used _ _ _ _ hsw]
  refine wpAny_bind (wpAny_standAt (wpAny_bind ?_))
  show wpAny _ A (do let _ ← comprehension (.ListComp elt [⟨target, iter, ifs, 0⟩] scope pos) scope env _ (newList []) false (eval iter env) (some (assign (.Name y py) env))) _ _ s
  refine wpAny_bind (wpAny_mono (wpAny_comprehension_free (use := some (assign (.Name y py) env)) (Q := fun _ s' => Q .next s') rfl hs hclos hkind hnames
    (wpAny_mono h (fun xv s₁ h₁ => wpAny_mono h₁ (fun it s₂ h₂ => ?_) fun _ _ e => e) fun _ _ e => e)) (fun _ s' hq => wpAny_pure (wpAny_pure hq)) fun _ _ e => e)
  obtain ⟨I, fp, wr, n, P, Md, St, ok, Out, g, m, news, rfl, S, hsz, F, hwr, hOut, turn, hQ⟩ := h₂
  refine compBlock (RR := fun acc C => compPost (model prog w) A E (some (assign (.Name y py) env)) (fun _ s' => Q .next s') acc C) S.W S.nd S.live hsz S.self S.st S.fpa hcell hkind ok Out hOut turn ?_
  intro D C h' tk m' ys k gF hD hC hDC hn hDo hys hgF hgC hk
  have hLs : ∃ o, s₂.heap.get? L = some o := by obtain ⟨o, _, _, ho, _⟩ := F.ns; exact ⟨o, ho⟩
  obtain ⟨oL, hoL⟩ := hLs
  have hLC : L ≠ C := fun e => by rw [e, hC] at hoL; cases hoL
  have hLD : L ≠ D := fun e => by rw [e, hD] at hoL; cases hoL
  have F₁ := F.but hwr hk
  subst hL
  show wpAny _ A (assign (.Name y py) env (.ref D)) _ _ _
  refine PySem.wpAny_assign_Name (wpAny_storeName_local hy F₁.ns (fun h₂ hn₂ hs₂ => ?_) (by rw [hke]; rfl))
  refine ⟨m', hn.sameBut hs₂ (Ne.symm hLC), fun h₃ hs₃ => ?_⟩
  have hk₃ : ∀ b o, b ∉ wr → b ≠ env.locals → s₂.heap.get? b = some o → h₃.get? b = some o := fun b o hb hbL e =>
    hs₃.extBut b o (fun q => by rw [q, hC] at e; cases e) (hs₂.extBut b o hbL (hk b o hb e))
  have hD₃ : h₃.get? D = some (listOf ys.toArray k) := hs₃.extBut _ _ hDC (hs₂.extBut _ _ (Ne.symm hLD) hDo)
  have F₂ := F₁.setL hn₂ hs₂
  have hCn : ∀ p ∈ news, p.1 ≠ C := fun p hp e => by have := (F.new p hp).1; rw [e, hC] at this; cases this
  have hDn : ∀ p ∈ news, p.1 ≠ D := fun p hp e => by have := (F.new p hp).1; rw [e, hD] at this; cases this
  have hgD : g.get? D = none := by
    cases e : g.get? D with
    | none => rfl
    | some o => have := F.keep _ _ e; rw [hD] at this; cases this
  have hgCn : g.get? C = none := by
    cases e : g.get? C with
    | none => rfl
    | some o => have := F.keep _ _ e; rw [hC] at this; cases this
  refine hQ D h₃ _ ys k hD ?_ hk₃ ⟨F₂.ns.sameBut hs₃ hLC, fun b o e => hs₃.extBut b o (fun q => by rw [q, hgCn] at e; cases e) (F₂.keep b o e), fun p hp => ?_, F₂.off, ?_⟩
  · exact ⟨gF, hys⟩
  · rcases List.mem_cons.mp hp with rfl | hp
    · exact ⟨hD₃, Ne.symm hLD, hgD⟩
    · exact ⟨hs₃.extBut _ _ (hCn p hp) (F₂.new p hp).1, (F₂.new p hp).2⟩
  · rw [List.map_cons, List.nodup_cons]
    refine ⟨fun hm => ?_, F₂.sep⟩
    obtain ⟨p, hp, e⟩ := List.mem_map.mp hm
    exact hDn p hp e
end
/-- the sources -/
theorem srcList {target : Expr} {t : Addr} {xs : List Value} (hh : A.handled = none) (ht : s.heap.IsList t xs.toArray) :
    Src prog w A target { s with heap := s.heap.push { cls := .type "list_iterator", data := .fields #[.ref t, .int 0 0] } } s.heap.objs.size [s.heap.objs.size, t] [s.heap.objs.size] xs.toArray.size
      (fun i v _ => xs.toArray[i]? = some v) (fun i v h => xs.toArray[i]? = some v ∧ h.IsListIter s.heap.objs.size t (i + 1) ∧ h.IsList t xs.toArray) (fun i h => h.IsListIter s.heap.objs.size t i ∧ h.IsList t xs.toArray) := by
  obtain ⟨ot, hot, _⟩ := id ht
  have hlt : t < s.heap.objs.size := Heap.lt_size hot
  refine ⟨KTurns.ofWalks (Walks.list hh s.heap.objs.size t (Nat.ne_of_lt hlt) xs.toArray) fun i v s Q E st q => letGo_listiter st.1 q, by simp, ?_, fun s Q E st q => wpAny_pyIter_listiter st.1 q, ⟨⟨_, Heap.get?_push_size _ rfl, rfl, rfl⟩, ht.at fun o e => Heap.get?_push_of_some _ e⟩, ?_⟩
  · rintro i h ⟨⟨o, ho, _⟩, _⟩ b hb
    rw [List.mem_singleton.mp hb]; exact ⟨o, ho⟩
  · intro b hb
    rcases List.mem_cons.mp hb with e | hb
    · rw [e]; exact ⟨_, Heap.get?_push_size _ rfl⟩
    · rw [List.mem_singleton.mp hb]; exact ⟨_, Heap.get?_push_of_some _ hot⟩

theorem freshA {g : Heap} {L : Addr} {m : Str → Option Value} {news : List (Addr × Obj)} (F : Fm g L s.heap m news) (a : Addr) (ha : s.heap.objs.size ≤ a) : a ≠ L ∧ g.get? a = none ∧ a ∉ news.map (·.1) := by
  refine ⟨Nat.ne_of_gt (Nat.lt_of_lt_of_le F.ns.lt ha), ?_, fun hm => ?_⟩
  · cases e : g.get? a with
    | none => rfl
    | some o => exact absurd (Heap.lt_size (F.keep _ _ e)) (Nat.not_lt.mpr ha)
  · obtain ⟨p, hp, e⟩ := List.mem_map.mp hm
    exact absurd (Heap.lt_size (F.new p hp).1) (e ▸ Nat.not_lt.mpr ha)
end

/-- what the two halves of a turn give back -/
def Kept (s : Shared) (g₁ : Heap) (C : Addr) (led : List (Addr × Obj)) (s₃ : Shared) (R : Heap → Prop) : Prop := ∃ g₂ h' tk' m₂, s₃ = { s with heap := h', toks := tk' } ∧ Ext g₁ g₂ ∧ Fm g₂ C h' m₂ led ∧ R g₂
theorem Kept.same {s : Shared} {g₁ h' : Heap} {C : Addr} {led : List (Addr × Obj)} {tk' : Nat} {m₂ : Str → Option Value} {R : Heap → Prop} (F : Fm g₁ C h' m₂ led) (r : R g₁) : Kept s g₁ C led { s with heap := h', toks := tk' } R :=
  ⟨g₁, h', tk', m₂, rfl, Ext.refl _, F, r⟩
/-- a turn's work, its name bound -/
def CWork (prog : Program) (w : World) (A : Around) (cenv : Addr → Env) (ifs : List Expr) (elt : Expr) (s : Shared) (g : Heap) (news : List (Addr × Obj)) (fr : (Str → Option Value) → Prop) (ok : Bool) (Out : Heap → Value → Prop) : Prop :=
  ∀ C g₁ m₁ h tk led, Ext g g₁ → (∀ p ∈ news, g₁.get? p.1 = some p.2) → fr m₁ → Fm g₁ C h m₁ led →
    wpAny (model prog w) A (testsOf ifs (cenv C)) (fun o s₃ => o = ok ∧ (ok = false → Kept s g₁ C led s₃ fun _ => True) ∧
      (ok = true → wpAny (model prog w) A (eval elt (cenv C)) (fun y s₄ => Kept s g₁ C led s₄ fun g₂ => Out g₂ y) no s₃)) no { s with heap := h, toks := tk }

section
variable {prog : Program} {w : World} {A : Around} {E : Value → Shared → Prop} {s : Shared} {env : Env} {g : Heap} {L : Addr} {m : Str → Option Value} {news : List (Addr × Obj)} {scope : Scope} {cl : List (Str × Addr)} {elt : Expr} {ifs : List Expr}

theorem listTurn {x : Str} {px : Pos} {t : Addr} {xs : List Value} (F : Fm g L s.heap m news) (hx : scope.names.lookup x = some .local) (hk : scope.kind = .function) {i : Nat} {ok : Bool} {Out : Heap → Value → Prop}
    (turn : ∀ v, xs[i]? = some v → CWork prog w A (fun C => compEnvC scope cl C env) ifs elt s g news (fun m₁ => m₁ x = some v) ok Out) :
    CompTurn prog w A (fun C => compEnvC scope cl C env) ifs elt (.Name x px) { s with heap := s.heap.push { cls := .type "list_iterator", data := .fields #[.ref t, .int 0 0] } } [s.heap.objs.size] (fun v _ => xs.toArray[i]? = some v) ok Out := by
  intro v C g₁ m₁ h tk led hg hv F₁
  have hv' : xs[i]? = some v := by simpa using hv
  have up : ∀ b o, s.heap.get? b = some o → g₁.get? b = some o := fun b o e => hg b o (fun hm => absurd (Heap.lt_size e) (by rw [List.mem_singleton.mp hm]; exact Nat.lt_irrefl _)) (Heap.get?_push_of_some _ e)
  refine PySem.wpAny_assign_Name (stL F₁ rfl (by show (relabel scope env).kind = _; exact hk) (lookup_relabel_local hx) fun h' F₂ => ?_)
  refine wpAny_mono (turn v hv' C g₁ _ h' _ led (fun b o e => up _ _ (F.keep b o e)) (fun p hp => up _ _ (F.new p hp).1) (by simp) F₂) (fun o s₃ h₃ => ?_) fun _ _ q => q
  obtain ⟨rfl, hf, ht⟩ := h₃
  refine ⟨rfl, fun e => ?_, fun e => wpAny_mono (ht e) (fun y s₄ h₄ => ?_) fun _ _ q => q⟩
  · obtain ⟨g₂, h', tk', m₂, rfl, x₂, F₃, _⟩ := hf e
    exact ⟨g₂, h', tk', m₂, rfl, x₂, F₃⟩
  · obtain ⟨g₂, h', tk', m₂, rfl, x₂, F₃, r⟩ := h₄
    exact ⟨g₂, h', tk', m₂, rfl, x₂, F₃, r⟩

theorem iterCompL {Q : Value → Shared → Prop} {x : Str} {px : Pos} {t : Addr} {xs : List Value} (hh : A.handled = none) (F : Fm g L s.heap m news) (hl : s.heap.IsList t xs.toArray) (hsz : xs.length ≤ sizeLine)
    (hx : scope.names.lookup x = some .local) (hk : scope.kind = .function) (ok : Nat → Bool) (Out : Nat → Heap → Value → Prop) (hOut : ∀ i g g' y, Ext g g' → Out i g y → Out i g' y)
    (turn : ∀ i v, xs[i]? = some v → CWork prog w A (fun C => compEnvC scope cl C env) ifs elt s g news (fun m₁ => m₁ x = some v) (ok i) (Out i))
    (done : ∀ D h' tk ys k, s.heap.get? D = none → Outs Out ok h' xs.length ys → Ext s.heap h' → Fm g L h' m ((D, listOf ys.toArray k) :: news) → Q (.ref D) { s with heap := h', toks := tk }) :
    wpAny (model prog w) A (pyIter (.ref t)) (fun it s₂ => ∃ I fp wr n P Md St ok Out g m news, it = .ref I ∧ Src prog w A (.Name x px) s₂ I fp wr n P Md St ∧ n ≤ sizeLine ∧
      Fm g L s₂.heap m news ∧ (∀ b ∈ wr, b ≠ L ∧ g.get? b = none ∧ b ∉ news.map (·.1)) ∧ (∀ i g g' y, Ext g g' → Out i g y → Out i g' y) ∧
      (∀ i, i < n → CompTurn prog w A (fun C => compEnvC scope cl C env) ifs elt (.Name x px) s₂ wr (P i) (ok i) (Out i)) ∧
      ∀ D h' tk ys k, s₂.heap.get? D = none → Outs Out ok h' n ys → (∀ b o, b ∉ wr → s₂.heap.get? b = some o → h'.get? b = some o) → Fm g L h' m ((D, listOf ys.toArray k) :: news) → Q (.ref D) { s₂ with heap := h', toks := tk }) E s := by
  refine wpAny_pyIter_list hl ?_
  refine ⟨_, _, _, _, _, _, _, ok, Out, g, m, news, rfl, srcList hh hl, by simpa using hsz, (F.push _).tail, fun b hb => by rw [List.mem_singleton.mp hb]; exact freshA F _ (Nat.le_refl _), hOut, fun i _ => listTurn F hx hk (turn i), ?_⟩
  intro D h' tk ys k hD hys hk' F'
  refine done D h' tk ys k ?_ (by simpa using hys) (fun b o e => hk' b o (fun hm => absurd (Heap.lt_size e) (by rw [List.mem_singleton.mp hm]; exact Nat.lt_irrefl _)) (Heap.get?_push_of_some _ e)) F'
  cases e : s.heap.get? D with
  | none => rfl
  | some o => rw [Heap.get?_push_of_some _ e] at hD; cases hD

theorem iterCompLA {Q : Flow → Shared → Prop} {x y : Str} {px : Pos} {t : Addr} {xs : List Value} (hh : A.handled = none) (F : Fm g L s.heap m news) (hl : s.heap.IsList t xs.toArray) (hsz : xs.length ≤ sizeLine)
    (hx : scope.names.lookup x = some .local) (hk : scope.kind = .function) (ok : Nat → Bool) (Out : Nat → Heap → Value → Prop) (hOut : ∀ i g g' y, Ext g g' → Out i g y → Out i g' y)
    (turn : ∀ i v, xs[i]? = some v → CWork prog w A (fun C => compEnvC scope cl C env) ifs elt s g news (fun m₁ => m₁ x = some v) (ok i) (Out i))
    (done : ∀ D h' tk ys k, s.heap.get? D = none → (∃ gF, Outs Out ok gF xs.length ys) → (∀ b o, b ≠ L → s.heap.get? b = some o → h'.get? b = some o) → Fm g L h' (fun z => if z = y then some (.ref D) else m z) ((D, listOf ys.toArray k) :: news) → Q .next { s with heap := h', toks := tk }) :
    wpAny (model prog w) A (pyIter (.ref t)) (fun it s₂ => ∃ I fp wr n P Md St ok Out g m news, it = .ref I ∧ Src prog w A (.Name x px) s₂ I fp wr n P Md St ∧ n ≤ sizeLine ∧
      Fm g L s₂.heap m news ∧ (∀ b ∈ wr, b ≠ L ∧ g.get? b = none ∧ b ∉ news.map (·.1)) ∧ (∀ i g g' y, Ext g g' → Out i g y → Out i g' y) ∧
      (∀ i, i < n → CompTurn prog w A (fun C => compEnvC scope cl C env) ifs elt (.Name x px) s₂ wr (P i) (ok i) (Out i)) ∧
      ∀ D h' tk ys k, s₂.heap.get? D = none → (∃ gF, Outs Out ok gF n ys) → (∀ b o, b ∉ wr → b ≠ L → s₂.heap.get? b = some o → h'.get? b = some o) → Fm g L h' (fun z => if z = y then some (.ref D) else m z) ((D, listOf ys.toArray k) :: news) → Q .next { s₂ with heap := h', toks := tk }) E s := by
  refine wpAny_pyIter_list hl ?_
  refine ⟨_, _, _, _, _, _, _, ok, Out, g, m, news, rfl, srcList hh hl, by simpa using hsz, (F.push _).tail, fun b hb => by rw [List.mem_singleton.mp hb]; exact freshA F _ (Nat.le_refl _), hOut, fun i _ => listTurn F hx hk (turn i), ?_⟩
  intro D h' tk ys k hD hys hk' F'
  refine done D h' tk ys k ?_ (by simpa using hys) (fun b o hb e => hk' b o (fun hm => absurd (Heap.lt_size e) (by rw [List.mem_singleton.mp hm]; exact Nat.lt_irrefl _)) hb (Heap.get?_push_of_some _ e)) F'
  cases e : s.heap.get? D with
  | none => rfl
  | some o => rw [Heap.get?_push_of_some _ e] at hD; cases hD

/-- over enumerate(list), two names -/
theorem iterCompE {Q : Value → Shared → Prop} {a b : Str} {pa pb tp : Pos} {kk : Nat} {t : Addr} {xs : List Value} (hh : A.handled = none) (F : Fm g L s.heap m news) (hl : s.heap.IsList t xs.toArray) (hsz : xs.length ≤ sizeLine)
    (ha : scope.names.lookup a = some .local) (hb : scope.names.lookup b = some .local) (hk : scope.kind = .function) (ok : Nat → Bool) (Out : Nat → Heap → Value → Prop) (hOut : ∀ i g g' y, Ext g g' → Out i g y → Out i g' y)
    (turn : ∀ (i : Nat) v, xs[i]? = some v → CWork prog w A (fun C => compEnvC scope cl C env) ifs elt s g news (fun m₁ => m₁ b = some v ∧ (b ≠ a → ∃ t, m₁ a = some (.int i t))) (ok i) (Out i))
    (done : ∀ D h' tk ys k, s.heap.get? D = none → Outs Out ok h' xs.length ys → Ext s.heap h' → Fm g L h' m ((D, listOf ys.toArray k) :: news) → Q (.ref D) { s with heap := h', toks := tk }) :
    wpAny (model prog w) A (call (.type "enumerate") [.ref t]) (fun v s₁ => wpAny (model prog w) A (pyIter v) (fun it s₂ => ∃ I fp wr n P Md St ok Out g m news, it = .ref I ∧ Src prog w A (.Tuple [.Name a pa, .Name b pb] kk tp) s₂ I fp wr n P Md St ∧ n ≤ sizeLine ∧
      Fm g L s₂.heap m news ∧ (∀ b ∈ wr, b ≠ L ∧ g.get? b = none ∧ b ∉ news.map (·.1)) ∧ (∀ i g g' y, Ext g g' → Out i g y → Out i g' y) ∧
      (∀ i, i < n → CompTurn prog w A (fun C => compEnvC scope cl C env) ifs elt (.Tuple [.Name a pa, .Name b pb] kk tp) s₂ wr (P i) (ok i) (Out i)) ∧
      ∀ D h' tk ys k, s₂.heap.get? D = none → Outs Out ok h' n ys → (∀ b o, b ∉ wr → s₂.heap.get? b = some o → h'.get? b = some o) → Fm g L h' m ((D, listOf ys.toArray k) :: news) → Q (.ref D) { s₂ with heap := h', toks := tk }) E s₁) E s := by
  obtain ⟨ot, hot, _⟩ := id hl
  have hlt : t < s.heap.objs.size := Heap.lt_size hot
  refine call_enumerate_list hl fun h' hE hI hsz' hkp => ?_
  refine wpAny_pyIter_enum hE ?_
  have hli : t ≠ s.heap.objs.size := Nat.ne_of_lt hlt
  have hle : t ≠ s.heap.objs.size + 1 := Nat.ne_of_lt (Nat.lt_succ_of_lt hlt)
  have W := KTurns.ofWalksU (elts := [.Name a pa, .Name b pb]) (k := kk) (pos := tp) (WalksT.enumerate (prog := prog) (w := w) hh (s.heap.objs.size + 1) s.heap.objs.size t (Nat.succ_ne_self _) hle hli xs.toArray).toU
  have S := @Src.mk prog w A _ { s with heap := h' } _ _ _ _ _ _ _ W (by simp) (by
    rintro i h ⟨⟨old, he⟩, ⟨o, ho, _⟩, _⟩ b hb
    rcases List.mem_cons.mp hb with e | hb
    · exact ⟨_, e ▸ he⟩
    · rw [List.mem_singleton.mp hb]; exact ⟨o, ho⟩) (fun s Q E st q => by
    obtain ⟨⟨old, he⟩, _⟩ := st
    exact wpAny_pyIter_enum he q) ⟨⟨_, hE⟩, hI, hl.at fun o e => hkp _ o e⟩ (by
    intro b hb
    rcases List.mem_cons.mp hb with e | hb
    · exact ⟨_, e ▸ hE⟩
    · rcases List.mem_cons.mp hb with e | hb
      · obtain ⟨o, ho, _⟩ := hI
        exact ⟨o, e ▸ ho⟩
      · rw [List.mem_singleton.mp hb]; exact ⟨_, hkp _ _ hot⟩)
  have notw : ∀ c o, s.heap.get? c = some o → c ∉ [s.heap.objs.size + 1, s.heap.objs.size] := fun c o e hm => by
    have hc := Heap.lt_size e
    rcases List.mem_cons.mp hm with q | hm
    · exact Nat.lt_irrefl _ (Nat.lt_of_lt_of_le (q ▸ hc) (Nat.le_succ _))
    · exact Nat.lt_irrefl _ ((List.mem_singleton.mp hm) ▸ hc)
  refine ⟨_, _, _, _, _, _, _, ok, Out, g, m, news, rfl, S, by simpa using hsz, F.ext hkp, fun c hc => ?_, hOut, fun i hi => ?_, ?_⟩
  · rcases List.mem_cons.mp hc with e | hc
    · rw [e]; exact freshA F _ (Nat.le_succ _)
    · rw [List.mem_singleton.mp hc]; exact freshA F _ (Nat.le_refl _)
  · rintro v C g₁ m₁ h tk led hg ⟨T, vals, rfl, ⟨tt, x, hx, rfl⟩, hT⟩ F₁
    have up : ∀ c o, s.heap.get? c = some o → g₁.get? c = some o := fun c o e => hg c o (notw c o e) (hkp _ _ e)
    refine asgTup2 hh F₁ hT rfl (by show (relabel scope env).kind = _; exact hk) (lookup_relabel_local ha) (lookup_relabel_local hb) fun h₂ tk₂ F₂ => ?_
    refine wpAny_mono (turn i x (by simpa using hx) C g₁ _ h₂ tk₂ led (fun c o e => up _ _ (F.keep c o e)) (fun p hp => up _ _ (F.new p hp).1) ⟨by simp, fun hne => ⟨tt, by simp [Ne.symm hne]⟩⟩ F₂) (fun o s₃ h₃ => ?_) fun _ _ q => q
    obtain ⟨rfl, hf, ht⟩ := h₃
    refine ⟨rfl, fun e => ?_, fun e => wpAny_mono (ht e) (fun y s₄ h₄ => ?_) fun _ _ q => q⟩
    · obtain ⟨g₂, h'', tk', m₂, rfl, x₂, F₃, _⟩ := hf e
      exact ⟨g₂, h'', tk', m₂, rfl, x₂, F₃⟩
    · obtain ⟨g₂, h'', tk', m₂, rfl, x₂, F₃, r⟩ := h₄
      exact ⟨g₂, h'', tk', m₂, rfl, x₂, F₃, r⟩
  · intro D h₂ tk ys k hD hys hk' F'
    refine done D h₂ tk ys k ?_ (by simpa using hys) (fun c o e => hk' c o (notw c o e) (hkp _ _ e)) F'
    cases e : s.heap.get? D with
    | none => rfl
    | some o => rw [hkp _ _ e] at hD; cases hD
end

/-- what comes out of a filter, and of a map to ints -/
theorem Outs.filter {α : Type} (as : List α) (val : α → Value) (pz : α → Bool) {h : Heap} {i : Nat} {ys : List Value}
    (H : Outs (fun i _ y => (as.map val)[i]? = some y) (fun i => (as[i]?.map pz).getD false) h i ys) : i ≤ as.length → ys = ((as.take i).filter pz).map val := by
  induction H with
  | nil => intro _; simp
  | @skip i ys a b ih =>
    intro hi
    have ih := ih (Nat.le_of_succ_le hi)
    have hlt : i < as.length := hi
    rw [List.take_succ_eq_append_getElem hlt, List.filter_append, List.map_append, ← ih]
    have : pz as[i] = false := by simpa [hlt] using a
    simp [this]
  | @snoc i ys y a b c ih =>
    intro hi
    have ih := ih (Nat.le_of_succ_le hi)
    have hlt : i < as.length := hi
    rw [List.take_succ_eq_append_getElem hlt, List.filter_append, List.map_append, ← ih]
    have h1 : pz as[i] = true := by simpa [hlt] using a
    have h2 : val as[i] = y := by simpa [hlt] using c
    simp [h1, ← h2]
theorem intsSnoc {n : Int} {t : Tok} {vs : List Value} {ns : List Int} (h : IntsAre vs ns) : IntsAre (vs ++ [.int n t]) (ns ++ [n]) := by
  induction h with
  | nil => exact .cons n t .nil
  | cons k u h ih => exact .cons k u ih
theorem Outs.ints {α : Type} (as : List α) (f : α → Int) {h : Heap} {i : Nat} {ys : List Value}
    (H : Outs (fun i _ y => ∃ t a, as[i]? = some a ∧ y = .int (f a) t) (fun _ => true) h i ys) : i ≤ as.length → IntsAre ys ((as.take i).map f) := by
  induction H with
  | nil => intro _; simpa using IntsAre.nil
  | @skip i ys a b ih => cases a
  | @snoc i ys y a b c ih =>
    intro hi
    have ih := ih (Nat.le_of_succ_le hi)
    have hlt : i < as.length := hi
    rw [List.take_succ_eq_append_getElem hlt, List.map_append]
    obtain ⟨t, a', e, rfl⟩ := c
    have : as[i] = a' := by simpa [hlt] using e
    subst this
    exact intsSnoc ih

theorem allObjs (h : Heap) (L : Addr) : ∃ l : List (Addr × Obj), (∀ b o, b ≠ L → h.get? b = some o → (b, o) ∈ l) ∧ News ({} : Heap) L h l := by
  refine ⟨(List.range h.objs.size).filterMap fun a => if a = L then none else (h.get? a).map fun o => (a, o), fun b o hb e => ?_, ?_⟩
  · refine List.mem_filterMap.mpr ⟨b, List.mem_range.mpr (Heap.lt_size e), ?_⟩
    rw [if_neg hb, e]; rfl
  · intro p hp
    obtain ⟨a, _, e⟩ := List.mem_filterMap.mp hp
    by_cases ha : a = L
    · rw [if_pos ha] at e; cases e
    · rw [if_neg ha] at e
      cases e' : h.get? a with
      | none => rw [e'] at e; cases e
      | some o =>
        rw [e'] at e
        cases e
        exact ⟨e', ha, rfl⟩

def least : List Int → Int
  | [] => 0
  | a :: r => r.foldl min a
theorem foldl_min (r : List Int) : ∀ a : Int, (r.foldl min a = a ∨ r.foldl min a ∈ r) ∧ r.foldl min a ≤ a ∧ ∀ x ∈ r, r.foldl min a ≤ x := by
  induction r with
  | nil => intro a; simp
  | cons b r ih =>
    intro a
    obtain ⟨h1, h2, h3⟩ := ih (min a b)
    rw [List.foldl_cons]
    have hm : min a b ≤ a ∧ min a b ≤ b := ⟨Int.min_le_left _ _, Int.min_le_right _ _⟩
    refine ⟨?_, Int.le_trans h2 hm.1, fun x hx => ?_⟩
    · rcases h1 with h1 | h1
      · rcases Int.le_total a b with hab | hab
        · left; rw [h1]; exact Int.min_eq_left hab
        · right; rw [h1, Int.min_eq_right hab]; exact .head _
      · right; exact .tail _ h1
    · rcases List.mem_cons.mp hx with rfl | hx
      · exact Int.le_trans h2 hm.2
      · exact h3 x hx
theorem least_mem : ∀ {ns : List Int}, 0 < ns.length → least ns ∈ ns
  | a :: r, _ => by
    rcases (foldl_min r a).1 with h | h
    · show r.foldl min a ∈ _; rw [h]; exact .head _
    · exact .tail _ h
theorem least_le : ∀ {ns : List Int}, ∀ x ∈ ns, least ns ≤ x
  | a :: r, x, hx => by
    rcases List.mem_cons.mp hx with rfl | hx
    · exact (foldl_min r x).2.1
    · exact (foldl_min r a).2.2 x hx
theorem least_eq {ns : List Int} {M : Int} (h1 : M ∈ ns) (h2 : ∀ a ∈ ns, M ≤ a) : M = least ns :=
  Int.le_antisymm (h2 _ (least_mem (List.length_pos_of_mem h1))) (least_le M h1)

section
variable {w : World} {A : Around} {s : Shared} {E : Value → Shared → Prop} {Q : Value → Shared → Prop} {g : Heap} {L : Addr} {m : Str → Option Value} {news : List (Addr × Obj)}
theorem minFm {prog : Program} {l : Addr} {vs : List Value} {ns : List Int} (hh : A.handled = none) (F : Fm g L s.heap m news) (hl : s.heap.IsList l vs.toArray) (hi : IntsAre vs ns) (hne : 0 < ns.length)
    (h : ∀ h' t tk, Fm g L h' m news → Q (.int (least ns) t) { s with heap := h', toks := tk }) : wpAny (model prog w) A (call (.builtin "min") [.ref l]) Q E s := by
  obtain ⟨all, ha, hN⟩ := allObjs s.heap L
  refine min_list_N (h₀ := {}) (L := L) (m := m) (news := all) hh ⟨F.ns, fun b o e => (by cases e), Nat.zero_le _⟩ hN hl hi hne fun h' M t tk F' N' hM hle => ?_
  rw [least_eq hM hle]
  exact h h' t tk (F.extBut F'.ns fun b o hb e => (N' _ (ha b o hb e)).1)

theorem least_by {xs : List (Value × Int)} {rl wl : Addr} {ws : List Value} (C : Cx w s.heap) (hdp : A.depth < recursionLimit) (hh : A.handled = none)
    (hR : s.heap.IsList rl (xs.map (·.1)).toArray) (hW : s.heap.IsList wl ws.toArray) (hI : IntsAre ws (xs.map (·.2))) (hne : 0 < xs.length) (hsz : xs.length ≤ 1000)
    (hQ : ∀ D k h' tk, s.heap.get? D = none → Ext s.heap h' → h'.get? D = some (listOf ((xs.filter fun p => p.2 == least (xs.map (·.2))).map (·.1)).toArray k) → Q (.ref D) { s with heap := h', toks := tk }) :
    wpAny (model PR w) A (call (.ref 68) [.ref rl, .ref wl]) Q E s := by
  refine' callC (binds := [("routes", .ref rl), ("worths", .ref wl)]) C ?k6 ?k7 hdp ?k9 ?kB ?c5 ?_ ?c2 ?c3 ?c4; (((case k6 => k_is); (case k7 => k_is); (case k9 => exact BindsTo.of_eq rfl); (case c5 => decide); (case kB => rfl); (case c2 => exact rfl); (case c3 => exact rfl); (case c4 => exact rfl)))
  intro L h₁ tk cells F Y
  obtain ⟨o, o', rfl, d, d'⟩ := CellsAre.two Y
  replace d : o.data = .cell none := d
  replace d' : o'.data = .cell (some (.ref wl)) := d'
  clear Y
  walk_at "mes"
  refine minFm (A := A.deeper _) hh F (hW.at fun b => F.keep _ b) hI (by simpa using hne) fun h₂ t₂ tk₂ F₂ => ?_
  clear F
  walk_at "mes"
  rename_i h₃ o₃ d₃ F₃
  clear d F₂
  refine' evComp (L := L) ?h ?hclos ?hcell ?hkind ?hnames; (case hclos => with_unfolding_all rfl); (case hcell => decide); (case hkind => rfl); (case hnames => decide)
  walk_at "mes"
  refine' iterCompE (xs := xs.map (·.1)) (ok := fun i => (xs[i]?.map fun p => p.2 == least (xs.map (·.2))).getD false) (Out := fun i _ y => (xs.map (·.1))[i]? = some y) ?hh ?F ?hl ?hsz ?ha ?hb ?hk ?hO ?_ ?_
  case F => exact F₃
  case hh => exact hh
  case hl => exact hR.at fun b => F₃.keep _ b
  case hsz => simp [sizeLine_eq]; omega
  case ha => rfl
  case hb => rfl
  case hk => rfl
  case hO => exact fun _ _ _ _ _ h => h
  · rintro i v hv Ca g₁ m₁ h tk led x hn ⟨hm1, hm2⟩ F₄
    obtain ⟨ti, hm2⟩ := hm2 (by decide)
    have C₁ := C.keeps x
    have hc1 : g₁.IsCell (L + 1) (some (.ref wl)) := ⟨_, hn _ (.tail _ (.head _)), d'⟩
    have hc2 : g₁.IsCell (L + 1 + 1) (some (.int (least (xs.map (·.2))) t₂)) := ⟨_, hn _ (.head _), d₃⟩
    obtain ⟨p, hp⟩ : ∃ p, xs[i]? = some p := by
      rw [List.getElem?_map] at hv
      cases e : xs[i]? with
      | none => rw [e] at hv; cases hv
      | some p => exact ⟨p, rfl⟩
    obtain ⟨tw, hw⟩ := hI.get i p.2 (by rw [List.getElem?_map, hp]; rfl)
    have hlt : i < xs.length := (List.getElem?_eq_some_iff.mp hp).1
    refine wpAny_tests_one ?_
    walk_at "mes"
    refine litem (hW.at fun o e => F₄.keep _ _ (x _ _ e)) (Int.natCast_nonneg i) (by omega) (by simpa using hw) ?_
    walk_at "mes"
    refine ⟨by rw [hp]; rfl, fun _ => Kept.same F₄ trivial, fun _ => ?_⟩
    walk_at "mes"
    exact Kept.same F₄ hv
  · intro D h' tk ys k hD hys x F₄
    have e := hys.filter xs (·.1) (fun p => p.2 == least (xs.map (·.2))) (by simp)
    rw [List.length_map, List.take_length] at e
    subst e
    have := F₄.get (.head _)
    refine hQ D k h' tk ?_ F₄.keep this
    exact F₄.fresh
end

abbrev vals (xs : List (Addr × Rt)) : List Value := xs.map fun p => .ref p.1
def AreR (w : World) (h : Heap) (xs : List (Addr × Rt)) : Prop := ∀ p ∈ xs, IsRoute w h p.1 p.2
theorem AreR.mono {w : World} {h h' : Heap} {xs : List (Addr × Rt)} (x : AreR w h xs) (k : Ext h h') : AreR w h' xs := fun p hp => (x p hp).mono k
def leastBy (f : Rt → Int) (xs : List (Addr × Rt)) : List (Addr × Rt) := xs.filter fun p => f p.2 == least (xs.map fun q => f q.2)
theorem AreR.sub {w : World} {h : Heap} {xs ys : List (Addr × Rt)} (x : AreR w h xs) (k : ∀ p ∈ ys, p ∈ xs) : AreR w h ys := fun p hp => x p (k p hp)
theorem leastBy_sub {f : Rt → Int} {xs : List (Addr × Rt)} : ∀ p ∈ leastBy f xs, p ∈ xs := fun _ hp => (List.mem_filter.mp hp).1
theorem leastBy_pos {f : Rt → Int} {xs : List (Addr × Rt)} (h : 0 < xs.length) : 0 < (leastBy f xs).length := by
  have := least_mem (ns := xs.map fun q => f q.2) (by simpa using h)
  obtain ⟨q, hq, e⟩ := List.mem_map.mp this
  exact List.length_pos_of_mem (List.mem_filter.mpr ⟨hq, by simp [← e]⟩)
theorem leastBy_len {f : Rt → Int} {xs : List (Addr × Rt)} : (leastBy f xs).length ≤ xs.length := List.length_filter_le _ _

section
variable {w : World} {A : Around} {s : Shared} {E : Value → Shared → Prop} {Q : Value → Shared → Prop} {g : Heap} {L : Addr} {m : Str → Option Value} {news : List (Addr × Obj)}
theorem least_of {xs : List (Addr × Rt)} (f : Rt → Int) {rl wl : Addr} {ws : List Value} (C : Cx w s.heap) (hdp : A.depth < recursionLimit) (hh : A.handled = none)
    (hR : s.heap.IsList rl (vals xs).toArray) (hW : s.heap.IsList wl ws.toArray) (hI : IntsAre ws (xs.map fun p => f p.2)) (hne : 0 < xs.length) (hsz : xs.length ≤ 1000)
    (hQ : ∀ D k h' tk, s.heap.get? D = none → Ext s.heap h' → h'.get? D = some (listOf (vals (leastBy f xs)).toArray k) → Q (.ref D) { s with heap := h', toks := tk }) :
    wpAny (model PR w) A (call (.ref 68) [.ref rl, .ref wl]) Q E s := by
  refine least_by (xs := xs.map fun p => (.ref p.1, f p.2)) C hdp hh (by simpa [vals, Function.comp_def] using hR) hW (by simpa [Function.comp_def] using hI) (by simpa using hne) (by simpa using hsz) fun D k h' tk hn x hD => hQ D k h' tk hn x ?_
  rw [hD]
  congr 3
  simp [vals, leastBy, List.filter_map, Function.comp_def]

theorem usable {xs : List (Addr × Rt)} {rl : Addr} (C : Cx w s.heap) (hdp : A.depth < recursionLimit) (hh : A.handled = none)
    (hL : s.heap.IsList rl (vals xs).toArray) (hR : AreR w s.heap xs) (hsz : xs.length ≤ 1000)
    (hQ : ∀ D k h' tk, s.heap.get? D = none → Ext s.heap h' → h'.get? D = some (listOf (vals xs).toArray k) → Q (.ref D) { s with heap := h', toks := tk }) :
    wpAny (model PR w) A (call (.ref 78) [.ref rl]) Q E s := by
  refine' callP (binds := [("routes", .ref rl)]) C ?k6 ?k7 hdp ?k9 ?kB ?c5 ?_ ?c2 ?c3 ?c4; (((case k6 => k_is); (case k7 => k_is); (case k9 => exact BindsTo.of_eq rfl); (case c5 => decide); (case kB => exact locs rfl); (case c2 => exact rfl); (case c3 => exact rfl); (case c4 => exact rfl)))
  intro L h₁ tk F
  walk_at "mes"
  refine' evComp (L := L) ?h ?hclos ?hcell ?hkind ?hnames; (case hclos => with_unfolding_all rfl); (case hcell => decide); (case hkind => rfl); (case hnames => decide)
  walk_at "mes"
  refine' iterCompL (xs := vals xs) (ok := fun i => (xs[i]?.map fun _ => true).getD false) (Out := fun i _ y => (xs.map fun p => Value.ref p.1)[i]? = some y) ?hh ?F ?hl ?hsz ?ha ?hk ?hO ?_ ?_
  case F => exact F
  case hh => exact hh
  case hl => exact hL.at fun b => F.keep _ b
  case hsz => simp [sizeLine_eq]; omega
  case ha => rfl
  case hk => rfl
  case hO => exact fun _ _ _ _ _ h => h
  · rintro i v hv Ca g₁ m₁ h tk led x hn hm F₄
    have C₁ := C.keeps x
    obtain ⟨p, hp, rfl⟩ : ∃ p, xs[i]? = some p ∧ v = .ref p.1 := by
      rw [List.getElem?_map] at hv
      cases e : xs[i]? with
      | none => rw [e] at hv; cases hv
      | some p => rw [e] at hv; exact ⟨p, rfl, by cases hv; rfl⟩
    obtain ⟨n8, d, pv, t, R⟩ := (hR p (List.mem_of_getElem? hp)).mono x
    have h1 := R.tup
    refine wpAny_tests_one ?_
    walk_at "mes"
    refine ⟨by rw [hp]; rfl, fun _ => Kept.same F₄ trivial, fun _ => ?_⟩
    walk_at "mes"
    exact Kept.same F₄ hv
  · intro D h' tk ys k hD hys x F₄
    have e := hys.filter xs (fun p => .ref p.1) (fun p => true) (by simp)
    rw [List.length_map, List.take_length] at e
    rw [List.filter_eq_self.mpr (fun _ _ => rfl)] at e
    subst e
    have := F₄.get (.head _)
    exact hQ D k h' tk F₄.fresh F₄.keep this

/-- what each route of a list is worth -/
theorem iterCosts {prog : Program} {scope : Scope} {cl : List (Str × Addr)} {elt : Expr} {env : Env} {x : Str} {px : Pos} {t : Addr} {xs : List (Addr × Rt)} (f : Rt → Int) (hh : A.handled = none) (F : Fm g L s.heap m news) (hl : s.heap.IsList t (vals xs).toArray) (hR : AreR w g xs) (hsz : xs.length ≤ 1000)
    (hx : scope.names.lookup x = some .local) (hk : scope.kind = .function)
    (turn : ∀ (a : Addr) (r : Rt) C g₁ m₁ h tk led, (a, r) ∈ xs → Ext g g₁ → IsRoute w g₁ a r → m₁ x = some (.ref a) → Fm g₁ C h m₁ led →
      wpAny (model prog w) A (eval elt (compEnvC scope cl C env)) (fun y s₄ => ∃ t, y = .int (f r) t ∧ Kept s g₁ C led s₄ fun _ => True) no { s with heap := h, toks := tk })
    (done : ∀ D h' tk ys k, s.heap.get? D = none → IntsAre ys (xs.map fun p => f p.2) → Ext s.heap h' → Fm g L h' m ((D, listOf ys.toArray k) :: news) → Q (.ref D) { s with heap := h', toks := tk }) :
    wpAny (model prog w) A (pyIter (.ref t)) (fun it s₂ => ∃ I fp wr n P Md St ok Out g m news, it = .ref I ∧ Src prog w A (.Name x px) s₂ I fp wr n P Md St ∧ n ≤ sizeLine ∧
      Fm g L s₂.heap m news ∧ (∀ b ∈ wr, b ≠ L ∧ g.get? b = none ∧ b ∉ news.map (·.1)) ∧ (∀ i g g' y, Ext g g' → Out i g y → Out i g' y) ∧
      (∀ i, i < n → CompTurn prog w A (fun C => compEnvC scope cl C env) [] elt (.Name x px) s₂ wr (P i) (ok i) (Out i)) ∧
      ∀ D h' tk ys k, s₂.heap.get? D = none → Outs Out ok h' n ys → (∀ b o, b ∉ wr → s₂.heap.get? b = some o → h'.get? b = some o) → Fm g L h' m ((D, listOf ys.toArray k) :: news) → Q (.ref D) { s₂ with heap := h', toks := tk }) E s := by
  refine iterCompL (xs := vals xs) hh F hl (by simp [sizeLine_eq]; omega) hx hk (fun _ => true) (fun i _ y => ∃ t a, xs[i]? = some a ∧ y = .int (f a.2) t) (fun _ _ _ _ _ h => h) ?_ ?_
  · rintro i v hv Ca g₁ m₁ h tk led x₁ hn hm F₄
    obtain ⟨p, hp, rfl⟩ : ∃ p, xs[i]? = some p ∧ v = .ref p.1 := by
      rw [List.getElem?_map] at hv
      cases e : xs[i]? with
      | none => rw [e] at hv; cases hv
      | some p => rw [e] at hv; exact ⟨p, rfl, by cases hv; rfl⟩
    refine wpAny_pure ⟨rfl, (fun e => nomatch e), fun _ => ?_⟩
    refine wpAny_mono (turn p.1 p.2 Ca g₁ m₁ h tk led (List.mem_of_getElem? hp) x₁ ((hR p (List.mem_of_getElem? hp)).mono x₁) hm F₄) (fun y s₄ h₄ => ?_) fun _ _ q => q
    obtain ⟨t, rfl, g₂, h', tk', m₂, rfl, x₂, F₅, _⟩ := h₄
    exact ⟨g₂, h', tk', m₂, rfl, x₂, F₅, t, p, hp, rfl⟩
  · intro D h' tk ys k hD hys x₁ F₄
    have e := hys.ints xs (fun p => f p.2) (by simp)
    rw [List.length_map, List.take_length] at e
    exact done D h' tk ys k hD e x₁ F₄
theorem evCosts {prog : Program} {scope : Scope} {cl : List (Str × Addr)} {elt : Expr} {env : Env} {x y : Str} {px py pos : Pos} {t : Addr} {xs : List (Addr × Rt)} (f : Rt → Int) (hh : A.handled = none) (F : Fm g L s.heap m news)
    (hL : env.locals = L) (hke : env.scope.kind = .function) (hy : env.kindOf y = some .local) (hdb : (y == ("__debug__" : Str)) = false) (hv : m y = some (.ref t))
    (hl : s.heap.IsList t (vals xs).toArray) (hR : AreR w g xs) (hsz : xs.length ≤ 1000)
    (hclos : closureFor scope env = pure cl) (hcell : ∀ y ∈ scope.names, y.2 ≠ .cell) (hnames : ∀ y ∈ scope.names, y.2 = .local → scope.names.lookup y.1 = some .local)
    (hx : scope.names.lookup x = some .local) (hk : scope.kind = .function)
    (turn : ∀ (a : Addr) (r : Rt) C g₁ m₁ h tk led, (a, r) ∈ xs → Ext g g₁ → IsRoute w g₁ a r → m₁ x = some (.ref a) → Fm g₁ C h m₁ led →
      wpAny (model prog w) A (eval elt (compEnvC scope cl C env)) (fun y s₄ => ∃ t, y = .int (f r) t ∧ Kept s g₁ C led s₄ fun _ => True) no { s with heap := h, toks := tk })
    (done : ∀ D h' tk ys k, s.heap.get? D = none → IntsAre ys (xs.map fun p => f p.2) → Ext s.heap h' → Fm g L h' m ((D, listOf ys.toArray k) :: news) → Q (.ref D) { s with heap := h', toks := tk }) :
    wpAny (model prog w) A (eval (.ListComp elt [⟨.Name x px, .Name y py, [], 0⟩] scope pos) env) Q E s :=
  evComp (Q := Q) (L := L) (nmL F hL hke hy hdb hv (iterCosts (Q := Q) f hh F hl hR hsz hx hk turn done)) hclos hcell hk hnames
end

/-- a frame's names, one more bound -/
def setM (m : Str → Option Value) (x : Str) (v : Value) : Str → Option Value := fun y => if y = x then some v else m y
theorem setM_setM {m : Str → Option Value} {x : Str} {v u : Value} : setM (setM m x v) x u = setM m x u := by
  funext y; unfold setM; split <;> rfl
theorem setM_self {m : Str → Option Value} {x : Str} {v : Value} : setM m x v x = some v := if_pos rfl
section
variable {w : World} {A : Around} {s : Shared} {E : Value → Shared → Prop} {g : Heap} {L : Addr} {m : Str → Option Value} {news : List (Addr × Obj)} {env : Env}
theorem rung {elt : Expr} {scope : Scope} {cl : List (Str × Addr)} {x : Str} {px p1 p2 p3 p4 p5 p6 p7 : Pos} {t : Addr} {xs : List (Addr × Rt)} {P : Flow → Shared → Prop} (f : Rt → Int)
    (hh : A.handled = none) (hdp : A.depth < recursionLimit) (C : Cx w g) (F : Fm g L s.heap m news)
    (hL : env.locals = L) (hke : env.scope.kind = .function) (hg : env.globals = mainGlobals) (hy : env.kindOf "left" = some .local) (hlb : env.kindOf "least_by" = some .globalImplicit) (hv : m "left" = some (.ref t))
    (hl : g.IsList t (vals xs).toArray) (hR : AreR w g xs) (hne : 0 < xs.length) (hsz : xs.length ≤ 1000)
    (hclos : closureFor scope env = pure cl) (hcell : ∀ y ∈ scope.names, y.2 ≠ .cell) (hnames : ∀ y ∈ scope.names, y.2 = .local → scope.names.lookup y.1 = some .local)
    (hx : scope.names.lookup x = some .local) (hk : scope.kind = .function)
    (turn : ∀ (a : Addr) (r : Rt) C g₁ m₁ h tk led, (a, r) ∈ xs → Ext g g₁ → IsRoute w g₁ a r → m₁ x = some (.ref a) → Fm g₁ C h m₁ led →
      wpAny (model PR w) A (eval elt (compEnvC scope cl C env)) (fun y s₄ => ∃ t, y = .int (f r) t ∧ Kept s g₁ C led s₄ fun _ => True) no { s with heap := h, toks := tk })
    (next : ∀ g' D h' tk, Ext g g' → g'.IsList D (vals (leastBy f xs)).toArray → Fm g' L h' (setM m "left" (.ref D)) news → P .next { s with heap := h', toks := tk }) :
    wpAny (model PR w) A (exec (.Assign [.Name "left" p1] (.Call (.Name "least_by" p2) [.Name "left" p3, .ListComp elt [⟨.Name x px, .Name "left" p4, [], 0⟩] scope p5] [] p6) p7) env) P E s := by
  refine wpAny_Assign_Name ?_
  refine Call_ ?_
  refine nmK (F.cx C) hke hg hlb (by decide) (by k_is) ?_
  refine callWith_K (first := []) C.k (by k_is) ?_
  refine spliced_more ?_
  refine nmL F hL hke hy (by decide) hv ?_
  refine spliced_more ?_
  refine evCosts f hh F hL hke hy (by decide) hv (F.list hl) hR hsz hclos hcell hnames hx hk turn fun D₁ h₂ tk₂ ys k₁ hn₁ hI x₁ F₂ => ?_
  refine spliced_nil ?_
  refine And.intro (F₂.cx C).k ?_
  refine least_of f (F₂.cx C) hdp hh (F₂.list hl) (F₂.listIn (.head _)) hI hne hsz fun D k h₃ tk₃ hn x₂ hD => ?_
  obtain ⟨g₂, x₃, F₃, hgD⟩ := F₂.tail.into x₂ hn hD
  refine stL F₃ hL hke hy fun h₄ F₄ => ?_
  exact next g₂ D h₄ _ x₃ ⟨_, hgD, rfl, _, rfl⟩ F₄
theorem rungApp {pl : Sem Bool} {nm : Str} {p1 p2 p3 p4 p5 p6 p7 : Pos} {k1 k2 : Nat} {lv : Value} {R : Addr} {vs : List Value} {k : Nat} {rest : List (Addr × Obj)} {P : Flow → Shared → Prop}
    (F : Fm g L s.heap m ((R, listOf vs.toArray k) :: rest)) (hL : env.locals = L) (hke : env.scope.kind = .function) (hy : env.kindOf "left" = some .local) (hr : env.kindOf "rungs" = some .local) (hi : interactive env = false)
    (hv : m "left" = some lv) (hvr : m "rungs" = some (.ref R)) (hsz : vs.length ≤ 1000)
    (he : eval (.Call (.Attribute (.Name "rungs" p1) "append" p2) [.Tuple [.Constant (.str nm) k1 p3, .Name "left" p4] k2 p5] [] p6) env = (do
      let ov ← eval (.Name "rungs" p1) env
      standAt p2.atName
      let (f, first) ← holding [ov] (getMethod ov "append" pl)
      callWith p6 f first (backTo p6 (starEach [.Tuple [.Constant (.str nm) k1 p3, .Name "left" p4] k2 p5] env)) []))
    (hs : swapsWith (.Call (.Attribute (.Name "rungs" p1) "append" p2) [.Tuple [.Constant (.str nm) k1 p3, .Name "left" p4] k2 p5] [] p6) none p7.line env = pure false)
    (next : ∀ g' T u h' tk k', Ext g g' → IsTup g' T [.str nm u, lv].toArray → Fm g' L h' m ((R, listOf (vs ++ [Value.ref T]).toArray k') :: rest) → P .next { s with heap := h', toks := tk }) :
    wpAny (model PR w) A (exec (.Expr (.Call (.Attribute (.Name "rungs" p1) "append" p2) [.Tuple [.Constant (.str nm) k1 p3, .Name "left" p4] k2 p5] [] p6) p7) env) P E s := by
  refine wpAny_Expr_any ?_ hi hs
  refine MethodCall_ ?_ he
  refine nmL F hL hke hr (by decide) hvr ?_
  refine gmAppend F .head ?_
  refine callMeth ?_
  refine spliced_more ?_
  refine PyProof.Rows.Tuple_ ?_
  refine spliced_more ?_
  refine Constant_str ?_
  refine spliced_more ?_
  refine nmL F hL hke hy (by decide) hv ?_
  refine spliced_nil ?_
  refine tupFm F (by simp [sizeLine_eq]) fun T h₁ hn x F₁ => ?_
  refine spliced_nil ?_
  obtain ⟨g', x', F₂, hT⟩ := F₁.sink1
  refine appendFm F₂ .head (by simp [sizeLine_eq]; omega) fun h₂ k' F₃ => ?_
  exact next g' T _ h₂ _ k' x' ⟨_, hT, rfl, _, rfl⟩ F₃
theorem rungNew {nm : Str} {p1 p3 p4 p5 p6 p7 : Pos} {k1 k2 : Nat} {lv : Value} {P : Flow → Shared → Prop}
    (F : Fm g L s.heap m news) (hL : env.locals = L) (hke : env.scope.kind = .function) (hy : env.kindOf "left" = some .local) (hr : env.kindOf "rungs" = some .local)
    (hv : m "left" = some lv)
    (hs : swapsWith (.List [.Tuple [.Constant (.str nm) k1 p3, .Name "left" p4] k2 p5] p6) (some (.Name "rungs" p1)) p7.line env = pure false)
    (next : ∀ R T h' tk k', Fm g L h' (setM m "rungs" (.ref R)) ((R, listOf [Value.ref T].toArray k') :: news) → P .next { s with heap := h', toks := tk }) :
    wpAny (model PR w) A (exec (.Assign [.Name "rungs" p1] (.List [.Tuple [.Constant (.str nm) k1 p3, .Name "left" p4] k2 p5] p6) p7) env) P E s := by
  refine wpAny_Assign_Name ?_ hs
  refine PyProof.Rows.List_ ?_
  refine spliced_more ?_
  refine PyProof.Rows.Tuple_ ?_
  refine spliced_more ?_
  refine Constant_str ?_
  refine spliced_more ?_
  refine nmL F hL hke hy (by decide) hv ?_
  refine spliced_nil ?_
  refine tupFm F (by simp [sizeLine_eq]) fun T h₁ hn x F₁ => ?_
  refine spliced_nil ?_
  obtain ⟨g', x', F₂, hT⟩ := F₁.sink1
  refine lstFm F₁.tail (by simp [sizeLine_eq]) fun R h₂ hn₂ x₂ F₃ => ?_
  refine stL F₃ hL hke hr fun h₃ F₄ => ?_
  exact next R T h₃ _ _ F₄
end
/-- what stays beside the frame -/
structure Bs (w : World) (g : Heap) (pd od c : Addr) (b : Bool) (xs : List (Addr × Rt)) : Prop where
  C : Cx w g
  R : AreR w g xs
  P : ∀ p ∈ xs, HasPeer w g pd p.2.num
  O : IsOpts w g od b
  c : g.IsCell c (some (.ref pd))
  ne : 0 < xs.length
  sz : xs.length ≤ 1000
theorem Bs.mono {w : World} {g g' : Heap} {pd od c : Addr} {b : Bool} {xs : List (Addr × Rt)} (B : Bs w g pd od c b xs) (k : Ext g g') : Bs w g' pd od c b xs :=
  ⟨B.C.keeps k, B.R.mono k, fun p hp => (B.P p hp).mono k, B.O.mono k, B.c.keeps k, B.ne, B.sz⟩
theorem Bs.sub {w : World} {g : Heap} {pd od c : Addr} {b : Bool} {xs ys : List (Addr × Rt)} (B : Bs w g pd od c b xs) (k : ∀ p ∈ ys, p ∈ xs) (hn : 0 < ys.length) (hs : ys.length ≤ xs.length) : Bs w g pd od c b ys :=
  ⟨B.C, B.R.sub k, fun p hp => B.P p (k p hp), B.O, B.c, hn, Nat.le_trans hs B.sz⟩
theorem setM_swap {m : Str → Option Value} {x y : Str} {u v : Value} (h : y ≠ x) : setM (setM m x u) y v = setM (setM m y v) x u := by
  funext z
  unfold setM
  by_cases h1 : z = x
  · subst h1
    rw [if_neg (Ne.symm h), if_pos rfl, if_pos rfl]
  · by_cases h2 : z = y
    · subst h2; rw [if_pos rfl, if_neg h1, if_pos rfl]
    · rw [if_neg h2, if_neg h1, if_neg h1, if_neg h2]
theorem Fm.names {g h : Heap} {L : Addr} {m m' : Str → Option Value} {news : List (Addr × Obj)} (F : Fm g L h m news) (e : m = m') : Fm g L h m' news := e ▸ F
theorem leastBy_const {c : Int} {xs : List (Addr × Rt)} : leastBy (fun _ => c) xs = xs := by
  refine List.filter_eq_self.mpr fun p hp => ?_
  have := least_mem (ns := xs.map fun _ => c) (by simpa using List.length_pos_of_mem hp)
  obtain ⟨q, _, e⟩ := List.mem_map.mp this
  exact beq_iff_eq.mpr e

/-- the ledger in another order -/
theorem Fm.perm {g h : Heap} {L : Addr} {m : Str → Option Value} {news news' : List (Addr × Obj)} (F : Fm g L h m news) (p : news.Perm news') : Fm g L h m news' :=
  ⟨F.ns, F.keep, fun q hq => F.new q (p.mem_iff.mpr hq), F.off, (p.map _).nodup_iff.mp F.sep⟩
def KeptX (s : Shared) (g₁ : Heap) (C : Addr) (m₁ : Str → Option Value) (led : List (Addr × Obj)) (s₃ : Shared) : Prop := ∃ g₂ h' tk', s₃ = { s with heap := h', toks := tk' } ∧ Ext g₁ g₂ ∧ Fm g₂ C h' m₁ led
theorem KeptX.same {s : Shared} {g₁ h' : Heap} {C : Addr} {led : List (Addr × Obj)} {tk' : Nat} {m₁ : Str → Option Value} (F : Fm g₁ C h' m₁ led) : KeptX s g₁ C m₁ led { s with heap := h', toks := tk' } :=
  ⟨g₁, h', tk', rfl, Ext.refl _, F⟩
section
variable {w : World} {A : Around} {s : Shared} {E : Value → Shared → Prop} {g : Heap} {L : Addr} {m : Str → Option Value} {news : List (Addr × Obj)}
  {prog : Program} {scope : Scope} {cl : List (Str × Addr)} {cond : Expr} {env : Env} {x y src : Str} {px py psrc px' pos spos : Pos} {t : Addr} {xs : List (Addr × Rt)} {pz : Addr × Rt → Bool}

def FTurn (prog : Program) (w : World) (A : Around) (cond : Expr) (cenv : Addr → Env) (x : Str) (xs : List (Addr × Rt)) (pz : Addr × Rt → Bool) (s : Shared) (g : Heap) (news : List (Addr × Obj)) : Prop :=
  ∀ (a : Addr) (r : Rt) C g₁ m₁ h tk led, (a, r) ∈ xs → Ext g g₁ → (∀ p ∈ news, g₁.get? p.1 = some p.2) → IsRoute w g₁ a r → m₁ x = some (.ref a) → Fm g₁ C h m₁ led →
    wpAny (model prog w) A (isTrue cond (cenv C) (eval cond (cenv C))) (fun o s₃ => o = pz (a, r) ∧ KeptX s g₁ C m₁ led s₃) no { s with heap := h, toks := tk }

theorem filtWork (hR : AreR w g xs) (hx : scope.names.lookup x = some .local) (hk : scope.kind = .function) (hdb : (x == ("__debug__" : Str)) = false)
    (turn : FTurn prog w A cond (fun C => compEnvC scope cl C env) x xs pz s g news) (i : Nat) (v : Value) (hv : (vals xs)[i]? = some v) :
    CWork prog w A (fun C => compEnvC scope cl C env) [cond] (.Name x px) s g news (fun m₁ => m₁ x = some v) ((xs[i]?.map pz).getD false) (fun _ y => (vals xs)[i]? = some y) := by
  rintro C g₁ m₁ h tk led x₁ hn hm F₄
  obtain ⟨p, hp, rfl⟩ : ∃ p, xs[i]? = some p ∧ v = .ref p.1 := by
    rw [List.getElem?_map] at hv
    cases e : xs[i]? with
    | none => rw [e] at hv; cases hv
    | some p => rw [e] at hv; exact ⟨p, rfl, by cases hv; rfl⟩
  refine wpAny_tests_one (wpAny_mono (turn p.1 p.2 C g₁ m₁ h tk led (List.mem_of_getElem? hp) x₁ hn ((hR p (List.mem_of_getElem? hp)).mono x₁) hm F₄) (fun o s₃ h₃ => ?_) fun _ _ q => q)
  obtain ⟨rfl, g₂, h', tk', rfl, x₂, F₅⟩ := h₃
  refine ⟨by rw [hp]; rfl, fun _ => ⟨g₂, h', tk', _, rfl, x₂, F₅, trivial⟩, fun _ => ?_⟩
  exact nmL F₅ rfl (by show (relabel scope env).kind = _; exact hk) (lookup_relabel_local hx) hdb hm ⟨g₂, h', tk', _, rfl, x₂, F₅, hv⟩

theorem outsFilt {h : Heap} {ys : List Value} (hys : Outs (fun i _ y => (vals xs)[i]? = some y) (fun i => (xs[i]?.map pz).getD false) h (vals xs).length ys) : ys = vals (xs.filter pz) := by
  have e := hys.filter xs (fun p => .ref p.1) pz (by simp)
  rw [List.length_map, List.take_length] at e
  exact e

theorem evFilt {Q : Value → Shared → Prop} (pz : Addr × Rt → Bool) (hh : A.handled = none) (F : Fm g L s.heap m news)
    (hL : env.locals = L) (hke : env.scope.kind = .function) (hy : env.kindOf src = some .local) (hdb : (src == ("__debug__" : Str)) = false) (hv : m src = some (.ref t))
    (hl : s.heap.IsList t (vals xs).toArray) (hR : AreR w g xs) (hsz : xs.length ≤ 1000)
    (hclos : closureFor scope env = pure cl) (hcell : ∀ y ∈ scope.names, y.2 ≠ .cell) (hnames : ∀ y ∈ scope.names, y.2 = .local → scope.names.lookup y.1 = some .local)
    (hx : scope.names.lookup x = some .local) (hk : scope.kind = .function) (hdb' : (x == ("__debug__" : Str)) = false)
    (turn : FTurn prog w A cond (fun C => compEnvC scope cl C env) x xs pz s g news)
    (done : ∀ D h' tk k, s.heap.get? D = none → Ext s.heap h' → Fm g L h' m ((D, listOf (vals (xs.filter pz)).toArray k) :: news) → Q (.ref D) { s with heap := h', toks := tk }) :
    wpAny (model prog w) A (eval (.ListComp (.Name x px') [⟨.Name x px, .Name src psrc, [cond], 0⟩] scope pos) env) Q E s := by
  refine evComp (Q := Q) (L := L) (nmL F hL hke hy hdb hv (iterCompL (Q := Q) (xs := vals xs) hh F hl (by simp [sizeLine_eq]; omega) hx hk _ _ (fun _ _ _ _ _ h => h) (filtWork hR hx hk hdb' turn) ?_)) hclos hcell hk hnames
  intro D h' tk ys k hD hys x₁ F₄
  rw [outsFilt hys] at F₄
  exact done D h' tk k hD x₁ F₄

theorem asFilt {Q : Flow → Shared → Prop} (pz : Addr × Rt → Bool) (hh : A.handled = none) (F : Fm g L s.heap m news)
    (hL : env.locals = L) (hke : env.scope.kind = .function) (hsrc : env.kindOf src = some .local) (hdb : (src == ("__debug__" : Str)) = false) (hv : m src = some (.ref t))
    (hl : s.heap.IsList t (vals xs).toArray) (hR : AreR w g xs) (hsz : xs.length ≤ 1000) (hy : env.kindOf y = some .local)
    (hsw : swapsWith (.ListComp (.Name x px') [⟨.Name x px, .Name src psrc, [cond], 0⟩] scope pos) (some (.Name y py)) spos.line env = pure true)
    (hclos : closureFor scope env = pure cl) (hcell : ∀ y ∈ scope.names, y.2 ≠ .cell) (hnames : ∀ y ∈ scope.names, y.2 = .local → scope.names.lookup y.1 = some .local)
    (hx : scope.names.lookup x = some .local) (hk : scope.kind = .function) (hdb' : (x == ("__debug__" : Str)) = false)
    (turn : FTurn prog w A cond (fun C => compEnvC scope cl C env) x xs pz s g news)
    (done : ∀ D h' tk k, s.heap.get? D = none → (∀ b o, b ≠ L → s.heap.get? b = some o → h'.get? b = some o) → Fm g L h' (fun z => if z = y then some (.ref D) else m z) ((D, listOf (vals (xs.filter pz)).toArray k) :: news) → Q .next { s with heap := h', toks := tk }) :
    wpAny (model prog w) A (exec (.Assign [.Name y py] (.ListComp (.Name x px') [⟨.Name x px, .Name src psrc, [cond], 0⟩] scope pos) spos) env) Q E s := by
  refine asComp (Q := Q) (L := L) (nmL F hL hke hsrc hdb hv (iterCompLA (Q := Q) (xs := vals xs) hh F hl (by simp [sizeLine_eq]; omega) hx hk _ _ (fun _ _ _ _ _ h => h) (filtWork hR hx hk hdb' turn) ?_)) hsw hclos hcell hk hnames hL hke hy
  intro D h' tk ys k hD ⟨gF, hys⟩ x₁ F₄
  rw [outsFilt hys] at F₄
  exact done D h' tk k hD x₁ F₄
end

section
open PySem.SeqAt
variable {prog : Program} {w : World} {A : Around} {E : Value → Shared → Prop} {s : Shared} {Q : Value → Shared → Prop}
def EqP (prog : Program) (w : World) (A : Around) (s : Shared) (y x : Value) (b : Bool) : Prop := ∀ (E : Value → Shared → Prop) (Q : Bool → Shared → Prop), Q b s → wpAny (model prog w) A (eqBool y x) Q E s
theorem EqP.of {y x : Value} {b : Bool} (h : EqAt A s y x b) : EqP prog w A s y x b := fun E Q => h prog w E Q
theorem EqP.refs {l b : Addr} {k : Bool} (hne : l ≠ b) (h : ∀ (E : Value → Shared → Prop) (Q : Value → Shared → Prop), Q (.bool k) s → wpAny (model prog w) A (compareOp .Eq (.ref l) (.ref b)) Q E s) : EqP prog w A s (.ref l) (.ref b) k := fun E Q hq => by
  unfold eqBool
  refine wpAny_holding ?_
  refine wpAny_ite_split (fun hab => absurd (by have := eq_of_beq hab; injection this) hne) (fun _ => ?_)
  exact wpAny_bind (h E _ (wpAny_truthy_bool hq))
/-- two tuples of five, of which the first entries are alike, the second ones whatever, the third ones unlike -/
theorem tup3Eq {a b : Addr} {x1 x2 x3 x4 x5 y1 y2 y3 y4 y5 : Value} {e : Bool} (ha : s.heap.IsTuple a #[x1, x2, x3, x4, x5]) (hb : s.heap.IsTuple b #[y1, y2, y3, y4, y5]) (hu : A.units < cLine)
    (h1 : EqP prog w A.in1 s x1 y1 true) (h2 : EqP prog w A.in1 s x2 y2 e) (h3 : EqP prog w A.in1 s x3 y3 false) (h : Q (.bool false) s) :
    wpAny (model prog w) A (compareOp .Eq (.ref a) (.ref b)) Q E s := by
  obtain ⟨⟨cls, dd, data, sl⟩, ho, hc, n, hd⟩ := id ha
  obtain ⟨⟨cls2, dd2, data2, sl2⟩, ho2, hc2, n2, hd2⟩ := id hb
  simp only at hc hd hc2 hd2
  subst hc hd hc2 hd2
  refine wpAny_richCompare_same_room (op := .Eq) ⟨_, ho, rfl⟩ ⟨_, ho2, rfl⟩ PySem.F.slot_tuple_eq (wpAny_call_entry PySem.F.slot_tuple_eq ⟨_, ho, rfl⟩ PySem.F.entry_tuple_eq ?_ (PySem.F.args_tuple_eq_2 _ _)) hu
  obtain ⟨hp, g, d, tk, os⟩ := s
  have f2 := AutoSeq1.sub_tuple_tuple
  unfold EqP at h1 h2 h3
  cases e with
  | false =>
    wp_walk using wpAny_loadPart' ho, wpAny_loadPart' ho2, h1 _ _, h2 _ _, h3 _ _
    exact ⟨_, rfl, (fun x => nomatch x), h⟩
  | true =>
    wp_walk using wpAny_loadPart' ho, wpAny_loadPart' ho2, h1 _ _, h2 _ _, h3 _ _
    exact ⟨_, rfl, (fun x => nomatch x), h⟩
theorem tup3Ne {a b : Addr} {x1 x2 x3 x4 x5 y1 y2 y3 y4 y5 : Value} {e : Bool} (ha : s.heap.IsTuple a #[x1, x2, x3, x4, x5]) (hb : s.heap.IsTuple b #[y1, y2, y3, y4, y5]) (hu : A.units < cLine)
    (h1 : EqP prog w A.in1 s x1 y1 true) (h2 : EqP prog w A.in1 s x2 y2 e) (h3 : EqP prog w A.in1 s x3 y3 false) (h : Q (.bool true) s) :
    wpAny (model prog w) A (compareOp .NotEq (.ref a) (.ref b)) Q E s := by
  obtain ⟨⟨cls, dd, data, sl⟩, ho, hc, n, hd⟩ := id ha
  obtain ⟨⟨cls2, dd2, data2, sl2⟩, ho2, hc2, n2, hd2⟩ := id hb
  simp only at hc hd hc2 hd2
  subst hc hd hc2 hd2
  refine wpAny_richCompare_same_room (op := .NotEq) ⟨_, ho, rfl⟩ ⟨_, ho2, rfl⟩ PySem.F.slot_tuple_ne (wpAny_call_entry PySem.F.slot_tuple_ne ⟨_, ho, rfl⟩ PySem.F.entry_tuple_ne ?_ (PySem.F.args_tuple_ne_2 _ _)) hu
  obtain ⟨hp, g, d, tk, os⟩ := s
  have f2 := AutoSeq1.sub_tuple_tuple
  unfold EqP at h1 h2 h3
  cases e with
  | false =>
    wp_walk using wpAny_loadPart' ho, wpAny_loadPart' ho2, h1 _ _, h2 _ _, h3 _ _
    exact ⟨_, rfl, (fun x => nomatch x), h⟩
  | true =>
    wp_walk using wpAny_loadPart' ho, wpAny_loadPart' ho2, h1 _ _, h2 _ _, h3 _ _
    exact ⟨_, rfl, (fun x => nomatch x), h⟩
theorem tupSameEq {a : Addr} {x1 x2 x3 x4 x5 : Value} (ha : s.heap.IsTuple a #[x1, x2, x3, x4, x5]) (hu : A.units < cLine) (h : Q (.bool true) s) :
    wpAny (model prog w) A (compareOp .Eq (.ref a) (.ref a)) Q E s := by
  obtain ⟨⟨cls, dd, data, sl⟩, ho, hc, n, hd⟩ := id ha
  simp only at hc hd
  subst hc hd
  refine wpAny_richCompare_same_room (op := .Eq) ⟨_, ho, rfl⟩ ⟨_, ho, rfl⟩ PySem.F.slot_tuple_eq (wpAny_call_entry PySem.F.slot_tuple_eq ⟨_, ho, rfl⟩ PySem.F.entry_tuple_eq ?_ (PySem.F.args_tuple_eq_2 _ _)) hu
  have h1 : EqP prog w A.in1 s x1 x1 true := .of (.same _)
  have h2 : EqP prog w A.in1 s x2 x2 true := .of (.same _)
  have h3 : EqP prog w A.in1 s x3 x3 true := .of (.same _)
  have h4 : EqP prog w A.in1 s x4 x4 true := .of (.same _)
  have h5 : EqP prog w A.in1 s x5 x5 true := .of (.same _)
  obtain ⟨hp, g, d, tk, os⟩ := s
  have f2 := AutoSeq1.sub_tuple_tuple
  unfold EqP at h1 h2 h3 h4 h5
  wp_walk using wpAny_loadPart' ho, h1 _ _, h2 _ _, h3 _ _, h4 _ _, h5 _ _
  exact ⟨_, rfl, (fun x => nomatch x), h⟩
theorem tupSameNe {a : Addr} {x1 x2 x3 x4 x5 : Value} (ha : s.heap.IsTuple a #[x1, x2, x3, x4, x5]) (hu : A.units < cLine) (h : Q (.bool false) s) :
    wpAny (model prog w) A (compareOp .NotEq (.ref a) (.ref a)) Q E s := by
  obtain ⟨⟨cls, dd, data, sl⟩, ho, hc, n, hd⟩ := id ha
  simp only at hc hd
  subst hc hd
  refine wpAny_richCompare_same_room (op := .NotEq) ⟨_, ho, rfl⟩ ⟨_, ho, rfl⟩ PySem.F.slot_tuple_ne (wpAny_call_entry PySem.F.slot_tuple_ne ⟨_, ho, rfl⟩ PySem.F.entry_tuple_ne ?_ (PySem.F.args_tuple_ne_2 _ _)) hu
  have h1 : EqP prog w A.in1 s x1 x1 true := .of (.same _)
  have h2 : EqP prog w A.in1 s x2 x2 true := .of (.same _)
  have h3 : EqP prog w A.in1 s x3 x3 true := .of (.same _)
  have h4 : EqP prog w A.in1 s x4 x4 true := .of (.same _)
  have h5 : EqP prog w A.in1 s x5 x5 true := .of (.same _)
  obtain ⟨hp, g, d, tk, os⟩ := s
  have f2 := AutoSeq1.sub_tuple_tuple
  unfold EqP at h1 h2 h3 h4 h5
  wp_walk using wpAny_loadPart' ho, h1 _ _, h2 _ _, h3 _ _, h4 _ _, h5 _ _
  exact ⟨_, rfl, (fun x => nomatch x), h⟩

theorem IsPath.reads {h : Heap} {v : Value} {asn : Int} (x : IsPath h v asn) : Reads h v (.tuple [.tuple [.int 2, .tuple [.int asn]]]) [] := by
  obtain ⟨p, q, r, t1, t2, rfl, ⟨o, ho, hc, n, hd⟩, ⟨o', ho', hc', n', hd'⟩, ⟨o'', ho'', hc'', n'', hd''⟩⟩ := x
  exact .tuple ho hc hd (.cons (as := []) (.tuple ho' hc' hd' (.cons (as := []) (.int _ _) (.cons (as := []) (.tuple ho'' hc'' hd'' (.cons (as := []) (.int _ _) .nil)) .nil))) .nil)
theorem shapedPath (asn : Int) : shaped (.tuple [.tuple [.int 2, .tuple [.int asn]]]) = true := rfl
theorem eqvPath (a b : Int) : PyData.eqv (.tuple [.tuple [.int 2, .tuple [.int a]]]) (.tuple [.tuple [.int 2, .tuple [.int b]]]) = (a == b) := by
  simp [PyData.eqv, PyData.eqvAll]
theorem pathEq {v v' : Value} {a b : Int} (x : IsPath s.heap v a) (y : IsPath s.heap v' b) (hu : A.units + 64 < cLine) (h : Q (.bool (a == b)) s) : wpAny (model prog w) A (compareOp .Eq v v') Q E s :=
  compareEq_shaped x.reads y.reads (shapedPath a) (shapedPath b) hu (by rw [eqvPath]; exact h)
theorem pathNe {v v' : Value} {a b : Int} (x : IsPath s.heap v a) (y : IsPath s.heap v' b) (hu : A.units + 64 < cLine) (h : Q (.bool (!(a == b))) s) : wpAny (model prog w) A (compareOp .NotEq v v') Q E s :=
  compareNe_shaped x.reads y.reads (shapedPath a) (shapedPath b) hu (by rw [eqvPath]; exact h)
theorem attrsEq {d d' : Addr} {v v' : Value} {a b m m' : Int} {t : Nat → Tok} {t' : Nat → Tok} (lo : (d == sysModules) = false) (lo' : (d' == sysModules) = false)
    (D : s.heap.DictOf (strKind prog w) d [("origin", .int 0 (t 5)), ("as_path", v), ("next_hop", .int 1 (t 6)), ("med", .int m (t 7))]) (D' : s.heap.DictOf (strKind prog w) d' [("origin", .int 0 (t' 5)), ("as_path", v'), ("next_hop", .int 1 (t' 6)), ("med", .int m' (t' 7))])
    (x : IsPath s.heap v a) (y : IsPath s.heap v' b) (hu : A.units + 70 < cLine) : ∃ e, EqP prog w A s (.ref d) (.ref d') e := by
  by_cases hd : d = d'
  · subst hd
    exact ⟨true, .of (.same _)⟩
  · refine ⟨_, EqP.refs hd fun E Q hq => keq_eq lo lo' D D' (by omega) (fun _ => .hit rfl (keq_flat (.int _ _) (.int _ _)) (.hit rfl (keq_at x.reads y.reads (shapedPath a) (shapedPath b) ?_) (.hit rfl (keq_flat (.int _ _) (.int _ _)) (.hit rfl (keq_flat (.int _ _) (.int _ _)) .nil)))) hq⟩
    show A.units + 1 + 64 < _
    omega
end

section
open PySem.SeqAt
variable {w : World} {A : Around} {s : Shared} {E : Value → Shared → Prop} {Q : Value → Shared → Prop}
theorem pre_reads {h : Heap} {n8 : Addr} {t1 t2 : Tok} (x : IsTup h n8 [.int 8 t1, .int 3 t2].toArray) : Reads h (.ref n8) (.tuple [.int 8, .int 3]) [] := by
  obtain ⟨o, ho, hc, n, hd⟩ := x
  exact .tuple ho hc hd (.cons (as := []) (.int _ _) (.cons (as := []) (.int _ _) .nil))
theorem preEq {n8 n8' : Addr} {t1 t2 t3 t4 : Tok} (x : IsTup s.heap n8 [.int 8 t1, .int 3 t2].toArray) (y : IsTup s.heap n8' [.int 8 t3, .int 3 t4].toArray) (hu : A.units + 70 < cLine) : EqP PR w A.in1 s (.ref n8) (.ref n8') true :=
  .of (keq_at (pre_reads x) (pre_reads y) rfl rfl (by show A.units + 1 + 64 < _; omega))
/-- routes of unlike numbers are unlike -/
theorem routeEqF {a b : Addr} {r r' : Rt} (x : IsRoute w s.heap a r) (y : IsRoute w s.heap b r') (hn : r.num ≠ r'.num) (hu : A.units + 72 < cLine) (h : Q (.bool false) s) : wpAny (model PR w) A (compareOp .Eq (.ref a) (.ref b)) Q E s := by
  obtain ⟨n8, d, pv, t, X⟩ := x
  obtain ⟨n8', d', pv', t', Y⟩ := y
  obtain ⟨e, he⟩ := attrsEq (A := A.in1) X.lo Y.lo X.attrs Y.attrs X.path Y.path (by show A.units + 1 + 70 < _; omega)
  refine tup3Eq X.tup Y.tup (by omega) (preEq X.pre Y.pre (by omega)) he (.of ?_) h
  have := @EqAt.int_int A.in1 s r.num (t 0) r'.num (t' 0)
  rwa [show (r.num == r'.num) = false by simpa using hn] at this
theorem routeNeT {a b : Addr} {r r' : Rt} (x : IsRoute w s.heap a r) (y : IsRoute w s.heap b r') (hn : r.num ≠ r'.num) (hu : A.units + 72 < cLine) (h : Q (.bool true) s) : wpAny (model PR w) A (compareOp .NotEq (.ref a) (.ref b)) Q E s := by
  obtain ⟨n8, d, pv, t, X⟩ := x
  obtain ⟨n8', d', pv', t', Y⟩ := y
  obtain ⟨e, he⟩ := attrsEq (A := A.in1) X.lo Y.lo X.attrs Y.attrs X.path Y.path (by show A.units + 1 + 70 < _; omega)
  refine tup3Ne X.tup Y.tup (by omega) (preEq X.pre Y.pre (by omega)) he (.of ?_) h
  have := @EqAt.int_int A.in1 s r.num (t 0) r'.num (t' 0)
  rwa [show (r.num == r'.num) = false by simpa using hn] at this
theorem routeEqT {a : Addr} {r : Rt} (x : IsRoute w s.heap a r) (hu : A.units < cLine) (h : Q (.bool true) s) : wpAny (model PR w) A (compareOp .Eq (.ref a) (.ref a)) Q E s := by
  obtain ⟨n8, d, pv, t, X⟩ := x
  exact tupSameEq X.tup hu h
theorem routeNeF {a : Addr} {r : Rt} (x : IsRoute w s.heap a r) (hu : A.units < cLine) (h : Q (.bool false) s) : wpAny (model PR w) A (compareOp .NotEq (.ref a) (.ref a)) Q E s := by
  obtain ⟨n8, d, pv, t, X⟩ := x
  exact tupSameNe X.tup hu h
/-- two routes of a list whose numbers are unlike -/
def NumsOk (xs : List (Addr × Rt)) : Prop := ∀ p ∈ xs, ∀ q ∈ xs, (p.2.num = q.2.num ↔ p.1 = q.1)
theorem routeEq {xs : List (Addr × Rt)} {p q : Addr × Rt} (N : NumsOk xs) (R : AreR w s.heap xs) (hp : p ∈ xs) (hq : q ∈ xs) (hu : A.units + 72 < cLine) (h : Q (.bool (p.2.num == q.2.num)) s) : wpAny (model PR w) A (compareOp .Eq (.ref p.1) (.ref q.1)) Q E s := by
  by_cases e : p.1 = q.1
  · rw [show (p.2.num == q.2.num) = true by simpa using (N p hp q hq).mpr e] at h
    rw [← e]
    exact routeEqT (R p hp) (by omega) h
  · have e' : p.2.num ≠ q.2.num := fun x => e ((N p hp q hq).mp x)
    rw [show (p.2.num == q.2.num) = false by simpa using e'] at h
    exact routeEqF (R p hp) (R q hq) e' hu h
theorem routeNe {xs : List (Addr × Rt)} {p q : Addr × Rt} (N : NumsOk xs) (R : AreR w s.heap xs) (hp : p ∈ xs) (hq : q ∈ xs) (hu : A.units + 72 < cLine) (h : Q (.bool (!(p.2.num == q.2.num))) s) : wpAny (model PR w) A (compareOp .NotEq (.ref p.1) (.ref q.1)) Q E s := by
  by_cases e : p.1 = q.1
  · rw [show (p.2.num == q.2.num) = true by simpa using (N p hp q hq).mpr e] at h
    rw [← e]
    exact routeNeF (R p hp) (by omega) h
  · have e' : p.2.num ≠ q.2.num := fun x => e ((N p hp q hq).mp x)
    rw [show (p.2.num == q.2.num) = false by simpa using e'] at h
    exact routeNeT (R p hp) (R q hq) e' hu h

/-- the order of two keys -/
def keyB (c n c' n' : Int) : Bool := if c = c' then decide (n < n') else decide (c < c')
theorem keyLt {a b : Addr} {c n c' n' : Int} {t1 t2 t3 t4 : Tok} (ha : s.heap.IsTuple a #[.int c t1, .int n t2]) (hb : s.heap.IsTuple b #[.int c' t3, .int n' t4]) (hu : A.units < cLine) (h : Q (.bool (keyB c n c' n')) s) :
    wpAny (model PR w) A (compareOp .Lt (.ref a) (.ref b)) Q E s := by
  obtain ⟨⟨cls, dd, data, sl⟩, ho, hc, k, hd⟩ := id ha
  obtain ⟨⟨cls2, dd2, data2, sl2⟩, ho2, hc2, k2, hd2⟩ := id hb
  simp only at hc hd hc2 hd2
  subst hc hd hc2 hd2
  refine wpAny_richCompare_same_room (op := .Lt) ⟨_, ho, rfl⟩ ⟨_, ho2, rfl⟩ PySem.F.slot_tuple_lt (wpAny_call_entry PySem.F.slot_tuple_lt ⟨_, ho, rfl⟩ PySem.F.entry_tuple_lt ?_ (PySem.F.args_tuple_lt_2 _ _)) hu
  have h1 : EqP PR w A.in1 s (.int c t1) (.int c' t3) (c == c') := .of fun prog w E Q hq => EqAt.int_int _ _ _ _ prog w E Q hq
  have h2 : EqP PR w A.in1 s (.int n t2) (.int n' t4) (n == n') := .of fun prog w E Q hq => EqAt.int_int _ _ _ _ prog w E Q hq
  have h3 : ∀ (E : Value → Shared → Prop) (Q : Value → Shared → Prop), Q (.bool (decide (c < c'))) s → wpAny (model PR w) A.in1 (richCompare .Lt (.int c t1) (.int c' t3)) Q E s := fun E Q h => PySem.P.lt_int h
  have h4 : ∀ (E : Value → Shared → Prop) (Q : Value → Shared → Prop), Q (.bool (decide (n < n'))) s → wpAny (model PR w) A.in1 (richCompare .Lt (.int n t2) (.int n' t4)) Q E s := fun E Q h => PySem.P.lt_int h
  unfold keyB at h
  unfold EqP at h1 h2
  obtain ⟨hp, g, d, tk, os⟩ := s
  have f2 := AutoSeq1.sub_tuple_tuple
  by_cases e1 : c = c'
  · rw [if_pos e1] at h
    rw [show (c == c') = true by simpa using e1] at h1
    by_cases e2 : n = n'
    · rw [show (n == n') = true by simpa using e2] at h2
      rw [show decide (n < n') = false by simp [e2]] at h
      wp_walk using wpAny_loadPart' ho, wpAny_loadPart' ho2, h1 _ _, h2 _ _
      exact ⟨_, rfl, (fun x => nomatch x), h⟩
    · rw [show (n == n') = false by simpa using e2] at h2
      wp_walk using wpAny_loadPart' ho, wpAny_loadPart' ho2, h1 _ _, h2 _ _, h4 _ _
      exact ⟨_, rfl, (fun x => nomatch x), h⟩
  · rw [if_neg e1] at h
    rw [show (c == c') = false by simpa using e1] at h1
    wp_walk using wpAny_loadPart' ho, wpAny_loadPart' ho2, h1 _ _, h3 _ _
    exact ⟨_, rfl, (fun x => nomatch x), h⟩
end

def betterB (r r' : Rt) : Bool := if r.as = r'.as ∧ r.med ≠ r'.med then decide (r.med < r'.med) else keyB r.cost r.num r'.cost r'.num
section
variable {w : World} {A : Around} {s : Shared} {E : Value → Shared → Prop} {Q : Value → Shared → Prop}
theorem law_key {a : Addr} {r : Rt} (C : Cx w s.heap) (hdp : A.depth < recursionLimit) (R : IsRoute w s.heap a r)
    (hQ : ∀ T t1 t2 h' tk, s.heap.get? T = none → Ext s.heap h' → IsTup h' T [.int r.cost t1, .int r.num t2].toArray → Q (.ref T) { s with heap := h', toks := tk }) :
    wpAny (model PR w) A (call (.ref 109) [.ref a]) Q E s := by
  refine' callP (binds := [("route", .ref a)]) C ?k6 ?k7 hdp ?k9 ?kB ?c5 ?_ ?c2 ?c3 ?c4; (((case k6 => k_is); (case k7 => k_is); (case k9 => exact BindsTo.of_eq rfl); (case c5 => decide); (case kB => exact locs rfl); (case c2 => exact rfl); (case c3 => exact rfl); (case c4 => exact rfl)))
  intro L h₁ tk F
  obtain ⟨n8, d, pv, t, R⟩ := R
  have h1 := R.tup
  walk_at "mes"
  rename_i T h' hn x F'
  exact hQ _ _ _ _ _ F'.fresh F'.keep (F'.tupIn (.head _))

theorem law_better {a b : Addr} {r r' : Rt} (C : Cx w s.heap) (hdp : A.depth + 1 < recursionLimit) (hh : A.handled = none) (hu : A.units + 100 < cLine) (R : IsRoute w s.heap a r) (R' : IsRoute w s.heap b r')
    (hQ : ∀ h' tk, Ext s.heap h' → Q (.bool (betterB r r')) { s with heap := h', toks := tk }) :
    wpAny (model PR w) A (call (.ref 116) [.ref a, .ref b]) Q E s := by
  refine' callP (binds := [("one", .ref a), ("other", .ref b)]) C ?k6 ?k7 (by omega) ?k9 ?kB ?c5 ?_ ?c2 ?c3 ?c4; (((case k6 => k_is); (case k7 => k_is); (case k9 => exact BindsTo.of_eq rfl); (case c5 => decide); (case kB => exact locs rfl); (case c2 => exact rfl); (case c3 => exact rfl); (case c4 => exact rfl)))
  intro L h₁ tk F
  obtain ⟨n8, d, pv, t, X⟩ := id R
  obtain ⟨n8', d', pv', t', Y⟩ := id R'
  have h1 := X.tup
  have h2 := X.attrs
  have h3 := Y.tup
  have h4 := Y.attrs
  walk_at "mes"
  refine pathEq (X.path.mono F.keep) (Y.path.mono F.keep) (by show A.units + 3 + 64 < _; omega) ?_
  walk_at "mes"
  by_cases ha : r.as = r'.as
  · rw [if_pos (by simpa using ha)]
    walk_at "mes"
    by_cases hm : r.med = r'.med
    · rw [if_neg (by simpa using hm)]
      walk_at "mes"
      have hB : betterB r r' = keyB r.cost r.num r'.cost r'.num := if_neg (by simp [hm])
      rw [hB] at hQ
      refine law_key (F.cx C) (by show A.depth + 1 < _; omega) (R.mono F.keep) fun T u1 u2 h₂ tk₂ hn₂ x₂ hT => ?_
      have F₂ := F.ext x₂
      clear F
      walk_at "mes"
      refine law_key (F₂.cx C) (by show A.depth + 1 < _; omega) (R'.mono F₂.keep) fun T' u1' u2' h₃ tk₃ hn₃ x₃ hT' => ?_
      refine keyLt (hT.keeps x₃) hT' (by show A.units + 3 < _; omega) ?_
      exact hQ _ _ (F₂.keep.trans x₃)
    · rw [if_pos (by simpa using hm)]
      walk_at "mes"
      have hB : betterB r r' = decide (r.med < r'.med) := if_pos ⟨ha, hm⟩
      rw [hB] at hQ
      exact hQ _ _ F.keep
  · rw [if_neg (by simpa using ha)]
    walk_at "mes"
    have hB : betterB r r' = keyB r.cost r.num r'.cost r'.num := if_neg (by simp [ha])
    rw [hB] at hQ
    refine law_key (F.cx C) (by show A.depth + 1 < _; omega) (R.mono F.keep) fun T u1 u2 h₂ tk₂ hn₂ x₂ hT => ?_
    have F₂ := F.ext x₂
    clear F
    walk_at "mes"
    refine law_key (F₂.cx C) (by show A.depth + 1 < _; omega) (R'.mono F₂.keep) fun T' u1' u2' h₃ tk₃ hn₃ x₃ hT' => ?_
    refine keyLt (hT.keeps x₃) hT' (by show A.units + 3 < _; omega) ?_
    exact hQ _ _ (F₂.keep.trans x₃)
end

def condB (good bad between : Rt) : Bool := good.as == bad.as && (bad.as != between.as) && decide (good.med < bad.med) && keyB bad.cost bad.num between.cost between.num && keyB between.cost between.num good.cost good.num
def tripleB (t : (Addr × Rt) × (Addr × Rt) × (Addr × Rt)) : Bool := condB t.1.2 t.2.1.2 t.2.2.2 || condB t.2.1.2 t.1.2 t.2.2.2
def triples (a b c : Addr × Rt) : List ((Addr × Rt) × (Addr × Rt) × (Addr × Rt)) := [(a, b, c), (b, c, a), (c, a, b)]
def roundB (a b c : Addr × Rt) : Bool := (triples a b c).any tripleB
section
variable {w : World} {A : Around} {s : Shared} {E : Value → Shared → Prop} {Q : Value → Shared → Prop}
theorem law_goes_round {a b c : Addr × Rt} (C : Cx w s.heap) (hdp : A.depth + 1 < recursionLimit) (hh : A.handled = none) (hu : A.units + 100 < cLine) (Ra : IsRoute w s.heap a.1 a.2) (Rb : IsRoute w s.heap b.1 b.2) (Rc : IsRoute w s.heap c.1 c.2)
    (hQ : ∀ h' tk, Ext s.heap h' → Q (.bool (roundB a b c)) { s with heap := h', toks := tk }) :
    wpAny (model PR w) A (call (.ref 123) [.ref a.1, .ref b.1, .ref c.1]) Q E s := by
  refine' callP (binds := [("one", .ref a.1), ("other", .ref b.1), ("third", .ref c.1)]) C ?k6 ?k7 (by omega) ?k9 ?kB ?c5 ?_ ?c2 ?c3 ?c4; (((case k6 => k_is); (case k7 => k_is); (case k9 => exact BindsTo.of_eq rfl); (case c5 => decide); (case kB => exact locs rfl); (case c2 => exact rfl); (case c3 => exact rfl); (case c4 => exact rfl)))
  intro L h₁ tk F
  refine wpAny_execs_cons ?_
  refine wpAny_For ?_
  walk_at "mes"
  rename_i T₁ _ _ _ _ T₂ _ _ _ _ T₃ _ _ _ _ T h₂ _ _ F₁
  obtain ⟨g, x₀, F₂, hk⟩ := F₁.sink (imm := [_, _, _, _]) (muts := [])
  clear F F₁
  have hT : IsTup g T [.ref T₁, .ref T₂, .ref T₃].toArray := ⟨_, hk _ (.head _), rfl, _, rfl⟩
  have h3 : IsTup g T₃ [.ref c.1, .ref a.1, .ref b.1].toArray := ⟨_, hk _ (.tail _ (.head _)), rfl, _, rfl⟩
  have h2 : IsTup g T₂ [.ref b.1, .ref c.1, .ref a.1].toArray := ⟨_, hk _ (.tail _ (.tail _ (.head _))), rfl, _, rfl⟩
  have h1 : IsTup g T₁ [.ref a.1, .ref b.1, .ref c.1].toArray := ⟨_, hk _ (.tail _ (.tail _ (.tail _ (.head _)))), rfl, _, rfl⟩
  have hat : ∀ (i : Nat) (v : Value), ([Value.ref T₁, Value.ref T₂, Value.ref T₃] : List Value)[i]? = some v → ∃ (T : Addr) (t : (Addr × Rt) × (Addr × Rt) × (Addr × Rt)), v = Value.ref T ∧ (triples a b c)[i]? = some t ∧ IsTup g T [.ref t.1.1, .ref t.2.1.1, .ref t.2.2.1].toArray ∧ IsRoute w s.heap t.1.1 t.1.2 ∧ IsRoute w s.heap t.2.1.1 t.2.1.2 ∧ IsRoute w s.heap t.2.2.1 t.2.2.2 := by
    intro i v hv
    match i, hv with
    | 0, hv => cases hv; exact ⟨_, _, rfl, rfl, h1, Ra, Rb, Rc⟩
    | 1, hv => cases hv; exact ⟨_, _, rfl, rfl, h2, Rb, Rc, Ra⟩
    | 2, hv => cases hv; exact ⟨_, _, rfl, rfl, h3, Rc, Ra, Rb⟩
  clear hk h1 h2 h3
  refine iterTup (A := A.deeper _) hh F₂ hT (fun i g m news => news = [] ∧ ∀ j < i, ∀ t, (triples a b c)[j]? = some t → tripleB t = false) ⟨rfl, fun _ h => absurd h (Nat.not_lt_zero _)⟩ ?_ ?_
  · rintro i hi v g₁ m₁ news₁ own h tk hv ⟨rfl, hJ⟩ x₁ F₃
    obtain ⟨T', t, rfl, ht, hTt, R1, R2, R3⟩ := hat i v hv
    clear hat F₂ hT
    obtain ⟨⟨a1, r1⟩, ⟨a2, r2⟩, ⟨a3, r3⟩⟩ := t
    dsimp only at hTt R1 R2 R3
    replace R1 := R1.mono (x₀.trans x₁)
    replace R2 := R2.mono (x₀.trans x₁)
    replace R3 := R3.mono (x₀.trans x₁)
    have C₁ := C.keeps (x₀.trans x₁)
    refine asgTup3 (A := A.deeper _) hh F₃ ((hTt.keeps x₁).keeps F₃.keep) rfl rfl rfl rfl rfl fun h₃ tk₃ F₄ => ?_
    clear F₃
    refine wpAny_execs_cons ?_
    refine wpAny_For ?_
    walk_at "mes"
    rename_i P₁ _ _ _ _ P₂ _ _ _ _ P h₄ _ _ F₅
    obtain ⟨g₂, x₂, F₆, hk⟩ := F₅.sink (imm := [_, _, _]) (muts := own ++ [])
    clear F₄ F₅
    have hP : IsTup g₂ P [.ref P₁, .ref P₂].toArray := ⟨_, hk _ (.head _), rfl, _, rfl⟩
    have h2 : IsTup g₂ P₂ [.ref a2, .ref a1].toArray := ⟨_, hk _ (.tail _ (.head _)), rfl, _, rfl⟩
    have h1 : IsTup g₂ P₁ [.ref a1, .ref a2].toArray := ⟨_, hk _ (.tail _ (.tail _ (.head _))), rfl, _, rfl⟩
    clear hk
    replace R1 := R1.mono x₂
    replace R2 := R2.mono x₂
    replace R3 := R3.mono x₂
    replace C₁ := C₁.keeps x₂
    refine iterTup (A := A.deeper _) hh F₆ hP (fun i g m news => news = own ++ [] ∧ m "between" = some (.ref a3) ∧ (0 < i → condB r1 r2 r3 = false) ∧ (1 < i → condB r2 r1 r3 = false)) ⟨rfl, rfl, fun h => absurd h (Nat.lt_irrefl _), fun h => absurd h (by omega)⟩ ?_ ?_
    · rintro k hk v g₃ m₃ news₃ own₃ h tk hv ⟨rfl, hm, hc1, hc2⟩ x₃ F₇
      obtain ⟨T'', b1, q1, b2, q2, rfl, hTT, Q1, Q2, hend, hnx⟩ : ∃ (T b1 : Addr) (q1 : Rt) (b2 : Addr) (q2 : Rt), v = Value.ref T ∧ IsTup g₂ T [.ref b1, .ref b2].toArray ∧ IsRoute w g₂ b1 q1 ∧ IsRoute w g₂ b2 q2 ∧ (condB q1 q2 r3 = true → roundB a b c = true) ∧
          (condB q1 q2 r3 = false → (0 < k + 1 → condB r1 r2 r3 = false) ∧ (1 < k + 1 → condB r2 r1 r3 = false)) := by
        match k, hv with
        | 0, hv => cases hv; exact ⟨_, _, _, _, _, rfl, h1, R1, R2, fun h => List.any_eq_true.mpr ⟨_, List.mem_of_getElem? ht, by simp [tripleB, h]⟩, fun h => ⟨fun _ => h, fun h => absurd h (by omega)⟩⟩
        | 1, hv => cases hv; exact ⟨_, _, _, _, _, rfl, h2, R2, R1, fun h => List.any_eq_true.mpr ⟨_, List.mem_of_getElem? ht, by simp [tripleB, h]⟩, fun h => ⟨fun _ => hc1 (by omega), fun _ => h⟩⟩
      refine asgTup2 (A := A.deeper _) hh F₇ ((hTT.keeps x₃).keeps F₇.keep) rfl rfl rfl rfl fun h₅ tk₅ F₈ => ?_
      clear F₇ h1 h2 hP F₆
      refine hideQ fun R hRR => ?_
      replace C₁ := C₁.keeps x₃
      replace Q1 := Q1.mono x₃
      replace Q2 := Q2.mono x₃
      replace R3 := R3.mono x₃
      obtain ⟨n1, d1, pv1, t1, X1⟩ := id Q1
      obtain ⟨n2, d2, pv2, t2, X2⟩ := id Q2
      obtain ⟨n3, d3, pv3, t3, X3⟩ := id R3
      have u1 := X1.tup
      have u2 := X1.attrs
      have v1 := X2.tup
      have v2 := X2.attrs
      have w1 := X3.tup
      have w2 := X3.attrs
      walk_at "mes"
      refine pathEq (X1.path.mono F₈.keep) (X2.path.mono F₈.keep) (by show A.units + 3 + 64 < _; omega) ?_
      walk_at "mes"
      by_cases e1 : q1.as = q2.as
      · rw [if_pos (by simpa using e1)]
        walk_at "mes"
        refine pathNe (X2.path.mono F₈.keep) (X3.path.mono F₈.keep) (by show A.units + 3 + 64 < _; omega) ?_
        walk_at "mes"
        by_cases e2 : q2.as = r3.as
        · rw [if_neg (by simpa using e2)]
          walk_at "mes"
          exact hRR _ _ ⟨_, _, _, _, _, rfl, Ext.refl _, F₈, rfl, hm, hnx (by simp [condB, e2])⟩
        · rw [if_pos (by simpa using e2)]
          walk_at "mes"
          by_cases e3 : q1.med < q2.med
          · rw [if_pos (by simpa using e3)]
            walk_at "mes"
            refine law_key (F₈.cx C₁) (by show A.depth + 1 < _; omega) (Q2.mono F₈.keep) fun S1 z1 z1' h₆ tk₆ hn₆ x₆ hS1 => ?_
            replace F₈ := F₈.ext x₆
            clear hn₆
            walk_at "mes"
            refine law_key (F₈.cx C₁) (by show A.depth + 1 < _; omega) (R3.mono F₈.keep) fun S2 z2 z2' h₇ tk₇ hn₇ x₇ hS2 => ?_
            replace F₈ := F₈.ext x₇
            clear hn₇
            walk_at "mes"
            refine keyLt (hS1.keeps x₇) hS2 (by show A.units + 3 < _; omega) ?_
            walk_at "mes"
            cases e4 : keyB q2.cost q2.num r3.cost r3.num with
            | false =>
              rw [if_neg Bool.false_ne_true]
              walk_at "mes"
              exact hRR _ _ ⟨_, _, _, _, _, rfl, Ext.refl _, F₈, rfl, hm, hnx (by simp [condB, e4])⟩
            | true =>
              rw [if_pos rfl]
              walk_at "mes"
              refine law_key (F₈.cx C₁) (by show A.depth + 1 < _; omega) (Q1.mono F₈.keep) fun S3 z3 z3' h₈ tk₈ hn₈ x₈ hS3 => ?_
              replace F₈ := F₈.ext x₈
              clear hn₈
              walk_at "mes"
              refine keyLt (hS2.keeps x₈) hS3 (by show A.units + 3 < _; omega) ?_
              walk_at "mes"
              cases e5 : keyB r3.cost r3.num q1.cost q1.num with
              | false =>
                rw [if_neg Bool.false_ne_true]
                walk_at "mes"
                exact hRR _ _ ⟨_, _, _, _, _, rfl, Ext.refl _, F₈, rfl, hm, hnx (by simp [condB, e5])⟩
              | true =>
                rw [if_pos rfl]
                walk_at "mes"
                rw [hend (by simp [condB, e1, e2, e3, e4, e5])] at hQ
                exact hRR _ _ <| by exact hQ _ _ ((x₀.trans x₁).trans ((x₂.trans x₃).trans F₈.keep))
          · rw [if_neg (by simpa using e3)]
            walk_at "mes"
            exact hRR _ _ ⟨_, _, _, _, _, rfl, Ext.refl _, F₈, rfl, hm, hnx (by simp [condB, e3])⟩
      · rw [if_neg (by simpa using e1)]
        walk_at "mes"
        exact hRR _ _ ⟨_, _, _, _, _, rfl, Ext.refl _, F₈, rfl, hm, hnx (by simp [condB, e1])⟩
    · rintro g₃ m₃ news₃ h tk ⟨rfl, hm, hc1, hc2⟩ x₃ F₇
      walk_at "mes"
      refine ⟨g₃, _, _, _, [], rfl, x₂.trans x₃, by simpa using F₇, rfl, fun j hj t' ht' => ?_⟩
      by_cases hji : j = i
      · subst hji
        rw [ht] at ht'
        cases ht'
        simp [tripleB, hc1 (by simp), hc2 (by simp)]
      · exact hJ j (by omega) t' ht'
  · rintro g₁ m₁ news₁ h tk ⟨rfl, hJ⟩ x₁ F₃
    have C₁ := C.keeps (x₀.trans x₁)
    walk_at "mes"
    have hB : roundB a b c = false := by
      refine List.any_eq_false.mpr fun t ht => ?_
      obtain ⟨j, hj, e⟩ := List.getElem_of_mem ht
      rw [hJ j hj t (by rw [← e]; exact List.getElem?_eq_getElem hj)]
      exact Bool.false_ne_true
    rw [hB] at hQ
    exact hQ _ _ ((x₀.trans x₁).trans F₃.keep)
end

theorem Fm.unsink {g h : Heap} {L P : Addr} {o : Obj} {m : Str → Option Value} {news : List (Addr × Obj)} (F : Fm g L h m news) (hP : g.get? P = some o) :
    ∃ g', (∀ b o, g'.get? b = some o → g.get? b = some o) ∧ (∀ b o, b ≠ P → g.get? b = some o → g'.get? b = some o) ∧ Fm g' L h m ((P, o) :: news) := by
  have hPL : P ≠ L := fun e => by rw [e, F.off] at hP; cases hP
  have sub : ∀ b o, (hideAll g [P]).get? b = some o → g.get? b = some o := fun b o e => of_hideAll _ e
  have none_of : ∀ b, g.get? b = none → (hideAll g [P]).get? b = none := fun b e => by
    cases q : (hideAll g [P]).get? b with
    | none => rfl
    | some o => rw [sub _ _ q] at e; cases e
  refine ⟨hideAll g [P], sub, fun b o hb e => hideAll_get _ e (by simpa using hb), ⟨F.ns, fun b o e => F.keep b o (sub b o e), fun p hp => ?_, none_of _ F.off, ?_⟩⟩
  · rcases List.mem_cons.mp hp with rfl | hp
    · exact ⟨F.keep _ _ hP, hPL, hideAll_none _ (.head _)⟩
    · exact ⟨(F.new p hp).1, (F.new p hp).2.1, none_of _ (F.new p hp).2.2⟩
  · rw [List.map_cons, List.nodup_cons]
    refine ⟨fun hm => ?_, F.sep⟩
    obtain ⟨p, hp, e⟩ := List.mem_map.mp hm
    have := (F.new p hp).2.2
    rw [e, hP] at this; cases this
theorem Fm.updX {g h h' : Heap} {L a : Addr} {o o' : Obj} {m : Str → Option Value} {news : List (Addr × Obj)} {u : Obj → List (Addr × Obj)} (F : Fm g L h m news) (U : At a o news u)
    (k : ∀ b o, b ≠ a → h.get? b = some o → h'.get? b = some o) (ho : h'.get? a = some o') : Fm g L h' m (u o') := by
  obtain ⟨pre, post, rfl, e⟩ := U.split
  rw [e]
  have ha := F.new (a, o) (List.mem_append_right _ (.head _))
  have hsep := F.sep
  simp only [List.map_append, List.map_cons, List.nodup_append, List.nodup_cons, List.mem_map, List.mem_cons, forall_exists_index, and_imp, ne_eq] at hsep
  have hpre : ∀ p ∈ pre, p.1 ≠ a := fun p hp q => hsep.2.2 p.1 p hp rfl a (.inl rfl) q
  have hpost : ∀ p ∈ post, p.1 ≠ a := fun p hp q => hsep.2.1.1 ⟨p, hp, q⟩
  refine ⟨F.ns.at' fun o q => k _ o (Ne.symm ha.2.1) q, fun b o e => k b o (fun q => by rw [q, ha.2.2] at e; cases e) (F.keep b o e), ?_, F.off, by have := F.sep; simpa only [List.map_append, List.map_cons] using this⟩
  intro p hp
  rcases List.mem_append.mp hp with hp | hp
  · have := F.new p (List.mem_append_left _ hp)
    exact ⟨k _ _ (hpre p hp) this.1, this.2⟩
  · rcases List.mem_cons.mp hp with rfl | hp
    · exact ⟨ho, ha.2⟩
    · have := F.new p (List.mem_append_right _ (.tail _ hp))
      exact ⟨k _ _ (hpost p hp) this.1, this.2⟩
def IsPool (h : Heap) (P cs : Addr) (spot : Nat) : Prop := ∃ t, h.IsList P [.ref cs, .int spot t].toArray
section
variable {w : World} {A : Around} {s : Shared} {E : Value → Shared → Prop} {Q : Value → Shared → Prop}
theorem law_draw {P cs : Addr} {spot : Nat} {many : Int} {tm : Tok} {vs : List Value} {ns : List Int} {g0 : Heap} (C : Cx w g0) (x : Ext g0 s.heap) (hdp : A.depth < recursionLimit) (hh : A.handled = none)
    (hP : IsPool s.heap P cs spot) (hPn : g0.get? P = none) (hc : g0.IsList cs vs.toArray) (hI : IntsAre vs ns) (hn : ns.length ≤ 1000) (hs : spot ≤ 1000) (hm : 0 < many)
    (hQ : ∀ d t h' tk, 0 ≤ d → d < many → IsPool h' P cs (spot + 1) → (∀ b o, b ≠ P → s.heap.get? b = some o → h'.get? b = some o) → Q (.int d t) { s with heap := h', toks := tk }) :
    wpAny (model PR w) A (call (.ref 102) [.ref P, .int many tm]) Q E s := by
  refine' callP (binds := [("pool", .ref P), ("many", .int many tm)]) (C.keeps x) ?k6 ?k7 hdp ?k9 ?kB ?c5 ?_ ?c2 ?c3 ?c4; (((case k6 => k_is); (case k7 => k_is); (case k9 => exact BindsTo.of_eq rfl); (case c5 => decide); (case kB => exact locs rfl); (case c2 => exact rfl); (case c3 => exact rfl); (case c4 => exact rfl)))
  intro L h₁ tk F
  obtain ⟨t0, oP, hoP, hcls, nP, hdat⟩ := hP
  replace ⟨g, sub, sup, F⟩ := F.unsink hoP
  replace C : Cx w g := C.keeps fun b o e => sup b o (fun q => by rw [q, hPn] at e; cases e) (x b o e)
  replace hc : g.IsList cs vs.toArray := hc.at fun o e => sup _ _ (fun q => by rw [q, hPn] at e; cases e) (x _ _ e)
  have hlen : vs.length = ns.length := hI.length
  walk_at "mes"
  refine litem (l := [.ref cs, .int spot t0]) (x := .int spot t0) ⟨_, F.get (.head _), hcls, _, hdat⟩ (by decide) (by decide) rfl ?_
  walk_at "mes"
  refine wpAny_Assign_Subscript ?_
  walk_at "mes"
  rename_i F₂
  refine wpAny_setItem_list (items := [.ref cs, .int spot t0].toArray) ⟨_, F₂.get (.head _), hcls, _, hdat⟩ (by decide) (by decide) (by show (1 : Int) < 2; decide) fun h₂ hP₂ hs₂ => ?_
  obtain ⟨oP', hoP', hcls', nP', hdat'⟩ := hP₂
  have F₃ := F₂.upd .head hs₂ hoP'
  clear F₂ F
  walk_at "mes"
  refine litem (l := [.ref cs, .int (spot + 1) _]) (x := .ref cs) ⟨_, F₃.get (.head _), hcls', _, hdat'⟩ (by decide) (by decide) rfl ?_
  walk_at "mes"
  refine call_len_list (items := vs.toArray) (F₃.list hc) (by rw [List.size_toArray]; omega) ?_
  walk_at "mes"
  have hPo : IsPool h₂ P cs (spot + 1) := ⟨_, _, F₃.get (.head _), hcls', _, hdat'⟩
  have fin : ∀ d t h' tk, 0 ≤ d → d < many → Ext h₂ h' → Q (.int d t) { s with heap := h', toks := tk } := fun d t h' tk a b k =>
    hQ d t h' tk a b (by obtain ⟨t, hl⟩ := hPo; exact ⟨t, hl.at fun _ => k _ _⟩) fun b o hb e => k _ _ (F₃.keep _ _ (sup b o hb e))
  by_cases hlt : spot < vs.length
  · rw [if_pos (by simpa using hlt)]
    walk_at "mes"
    refine litem (l := [.ref cs, .int (spot + 1) _]) (x := .ref cs) ⟨_, F₃.get (.head _), hcls', _, hdat'⟩ (by decide) (by decide) rfl ?_
    walk_at "mes"
    obtain ⟨tv, hv⟩ := hI.get spot (ns[spot]'(by omega)) (List.getElem?_eq_getElem _)
    refine litem (F₃.list hc) (Int.natCast_nonneg _) (by omega) (by simpa using hv) ?_
    walk_at "mes"
    refine call_abs_int fun u tk => ?_
    walk_at "mes"
    refine mod_int' (by omega) ?_
    walk_at "mes"
    exact fin _ _ _ _ (Int.fmod_nonneg_of_pos _ hm) (Int.fmod_lt_of_pos _ hm) (Ext.refl _)
  · rw [if_neg (by simpa using hlt)]
    walk_at "mes"
    rename_i T h₃ hnT xT F₄
    refine mod_int' (by decide) ?_
    have b1 := Int.fmod_nonneg_of_pos (spot : Int) (show (0 : Int) < 10 by decide)
    have b2 := Int.fmod_lt_of_pos (spot : Int) (show (0 : Int) < 10 by decide)
    generalize (spot : Int).fmod 10 = z at b1 b2 ⊢
    have hz : z = 0 ∨ z = 1 ∨ z = 2 ∨ z = 3 ∨ z = 4 ∨ z = 5 ∨ z = 6 ∨ z = 7 ∨ z = 8 ∨ z = 9 := by omega
    have hT := F₄.tupIn (.head _)
    rcases hz with rfl | rfl | rfl | rfl | rfl | rfl | rfl | rfl | rfl | rfl <;>
      (refine item_tupleT hT (by decide) (by decide) rfl rfl ?_
       walk_at "mes"
       refine mod_int' (by omega) ?_
       exact fin _ _ _ _ (Int.fmod_nonneg_of_pos _ hm) (Int.fmod_lt_of_pos _ hm) xT)
end

section
variable {prog : Program} {w : World} {A : Around} {E : Value → Shared → Prop} {s : Shared}
theorem sortOne {a : Addr} {v : Value} {n : Nat} {P : PySem.Fin → Shared → Prop} (ho : s.heap.get? a = some (seqObj "list" [v].toArray n)) (h : P (.done (.ret .none)) { s with heap := sortedHeap s.heap a [v] #[v] }) :
    wpAny (model prog w) A (Builtin.«list.sort» ⟨[.ref a], []⟩) P E s := by
  rw [list_sort_plain]
  have ha : a < s.heap.objs.size := Heap.lt_size ho
  refine wpAny_bind (listItems_at ho rfl ?_)
  refine wpAny_bind (listUpdate_at ho rfl ?_)
  obtain ⟨e1, ho1⟩ : ∃ e1, (s.heap.update a (Obj.mapSeq fun _ => (#[] : Array Value))).get? a = some (seqObj "list" #[] e1) := ⟨_, get?_update_seq ho fun _ => #[]⟩
  refine wpAny_bind (seqEpoch_at ho1 rfl ?_)
  refine wpAny_bind (wpAny_newTuple ?_)
  refine wpAny_bind (wpAny_newList ?_)
  refine wpAny_holding ?_
  have ho6 : (((s.heap.update a (Obj.mapSeq fun _ => (#[] : Array Value))).push (seqObj "tuple" [v].toArray 0)).push (seqObj "list" #[] 0)).get? a = some (seqObj "list" #[] e1) := by
    rw [Heap.get?_push_ne _ _ _ (by rw [size_push', Heap.size_update]; exact Nat.ne_of_lt (Nat.lt_succ_of_lt ha)), Heap.get?_push_ne _ _ _ (by rw [Heap.size_update]; exact Nat.ne_of_lt ha)]
    exact ho1
  show wpAny (model prog w) A _ P E { s with heap := ((s.heap.update a (Obj.mapSeq fun _ => (#[] : Array Value))).push (seqObj "tuple" [v].toArray 0)).push (seqObj "list" #[] 0) }
  dsimp only
  have h2 : [v].toArray.size < 2 := by simp
  rw [if_pos h2, if_pos h2]
  refine wpAny_bind (wpAny_pure ?_)
  rw [StateT.run_pure]
  refine wpAny_bind (wpAny_pure ?_)
  dsimp only
  refine wpAny_bind (seqEpoch_at ho6 rfl ?_)
  have e : Array.map (fun x => x.snd) (arrOf (SortSt.mk' general' ([v].toArray.zip [v].toArray) #[] 7 none)) = #[v] := by
    show Array.map _ ([v].toArray.zip [v].toArray) = _
    simp
  refine wpAny_bind (listUpdate_at ho6 rfl ?_ (hsz2 := by rw [e]; show 1 ≤ _; rw [sizeLine_eq]; omega))
  simp only [bne_self_eq_false, Bool.false_eq_true, if_false]
  rw [e]
  exact wpAny_pure h
theorem sortedOne {l : Addr} {v : Value} {Q : Value → Shared → Prop} (hl : s.heap.IsList l [v].toArray)
    (h : Q (.ref (s.heap.objs.size + 1)) { s with heap := sortedAll s.heap [v] #[v] }) : wpAny (model prog w) A (call (.builtin "sorted") [.ref l]) Q E s := by
  refine Calls.call_function_entry kind_sorted plain_sorted entry_sorted (args_sorted1 _) ?_
  unfold Builtin.«sorted»
  refine wpAny_bind (m := checkCount "sorted" 1 1 _) (wpAny_pure ?_)
  refine wpAny_bind (collect_list hl ?_)
  refine wpAny_bind (wpAny_newList ?_)
  have hsz : ((s.heap.push (seqObj "list" #[] 0)).update s.heap.objs.size (Obj.mapSeq (· ++ [v].toArray))).objs.size = s.heap.objs.size + 1 := by
    rw [Heap.size_update, size_push']
  have hoL : (((s.heap.push (seqObj "list" #[] 0)).update s.heap.objs.size (Obj.mapSeq (· ++ [v].toArray))).push (seqObj "list" [v].toArray 0)).get? (s.heap.objs.size + 1) = some (seqObj "list" [v].toArray 0) := by
    rw [← hsz]; exact Heap.get?_push_size _ rfl
  show wpAny _ _ _ _ _ { s with heap := ((s.heap.push (seqObj "list" #[] 0)).update s.heap.objs.size (Obj.mapSeq (· ++ [v].toArray))).push (seqObj "list" [v].toArray 0) }
  rw [hsz]
  refine wpAny_bind (wpAny_holding (wpAny_call_entry slot_list_sort ⟨_, hoL, rfl⟩ entry_list_sort (sortOne hoL ⟨_, rfl, ?_⟩) (args_list_sort _)))
  exact wpAny_pure ⟨_, rfl, h⟩
end
/-- the sort's tree with the answers given -/
def kasRun {α : Type} (lt : Nat → Nat → Bool) : KasT α → α
  | .ret a => a
  | .ask i j k => kasRun lt (k (lt i j))
def kasIn {α : Type} (n : Nat) : KasT α → Bool
  | .ret _ => true
  | .ask i j k => decide (i < n) && decide (j < n) && kasIn n (k true) && kasIn n (k false)
theorem kasPure {α : Type} {cmp : Nat → Nat → (Bool → Shared → Prop) → Shared → Prop} {lt : Nat → Nat → Bool} {n : Nat} {Q : α → Shared → Prop} {s : Shared}
    (hc : ∀ i j, i < n → j < n → ∀ C, C (lt i j) s → cmp i j C s) : ∀ t : KasT α, kasIn n t = true → Q (kasRun lt t) s → t.kasWp cmp Q s
  | .ret a, _, h => h
  | .ask i j k, hin, h => by
    simp only [kasIn, Bool.and_eq_true, decide_eq_true_eq] at hin
    refine hc i j hin.1.1.1 hin.1.1.2 _ ?_
    exact kasPure hc (k (lt i j)) (by cases lt i j; exact hin.2; exact hin.1.2) h
theorem kasIn_sort : kasIn 2 (kas_sort 2) = true ∧ kasIn 3 (kas_sort 3) = true ∧ kasIn 4 (kas_sort 4) = true := by decide +kernel
/-- an order of four by its answers -/
def ltBy (b01 b02 b03 b12 b13 b23 : Bool) (i j : Nat) : Bool :=
  match i, j with
  | 0, 1 => b01 | 0, 2 => b02 | 0, 3 => b03 | 1, 2 => b12 | 1, 3 => b13 | 2, 3 => b23
  | 1, 0 => !b01 | 2, 0 => !b02 | 3, 0 => !b03 | 2, 1 => !b12 | 3, 1 => !b13 | 3, 2 => !b23
  | _, _ => false
def transB (n : Nat) (lt : Nat → Nat → Bool) : Bool := (List.range n).all fun i => (List.range n).all fun j => (List.range n).all fun k => !(lt i j && lt j k) || (lt i k)
def firstB (n : Nat) (lt : Nat → Nat → Bool) : Bool := let p := kasRun lt (kas_sort n); decide (p.size = n) && decide (p.getD 0 0 < n) && (List.range n).all fun j => j == p.getD 0 0 || lt (p.getD 0 0) j
theorem first4 : ∀ b01 b02 b03 b12 b13 b23 : Bool, transB 4 (ltBy b01 b02 b03 b12 b13 b23) = true → firstB 4 (ltBy b01 b02 b03 b12 b13 b23) = true := by decide +kernel
theorem first3 : ∀ b01 b02 b12 : Bool, transB 3 (ltBy b01 b02 false b12 false false) = true → firstB 3 (ltBy b01 b02 false b12 false false) = true := by decide +kernel
theorem first2 : ∀ b01 : Bool, transB 2 (ltBy b01 false false false false false) = true → firstB 2 (ltBy b01 false false false false false) = true := by decide +kernel

theorem kasRun_congr {α : Type} {lt lt' : Nat → Nat → Bool} {n : Nat} (h : ∀ i j, i < n → j < n → lt i j = lt' i j) : ∀ t : KasT α, kasIn n t = true → kasRun lt t = kasRun lt' t
  | .ret _, _ => rfl
  | .ask i j k, hin => by
    simp only [kasIn, Bool.and_eq_true, decide_eq_true_eq] at hin
    show kasRun lt (k (lt i j)) = kasRun lt' (k (lt' i j))
    rw [h i j hin.1.1.1 hin.1.1.2]
    exact kasRun_congr h _ (by cases lt' i j; exact hin.2; exact hin.1.2)
/-- the answers of an order, its lower half by the upper one -/
def fullB (lt : Nat → Nat → Bool) (i j : Nat) : Bool := if i < j then lt i j else if j < i then !lt j i else false
theorem first_of {n : Nat} {lt : Nat → Nat → Bool} (h2 : 2 ≤ n) (h4 : n ≤ 4) (hf : ∀ i j, i < n → j < n → lt i j = fullB lt i j) (ht : ∀ i j k, i < n → j < n → k < n → lt i j = true → lt j k = true → lt i k = true) :
    (kasRun lt (kas_sort n)).size = n ∧ (kasRun lt (kas_sort n)).getD 0 0 < n ∧ ∀ j, j < n → j ≠ (kasRun lt (kas_sort n)).getD 0 0 → lt ((kasRun lt (kas_sort n)).getD 0 0) j = true := by
  have fin : ∀ lt' : Nat → Nat → Bool, (∀ i j, i < n → j < n → lt i j = lt' i j) → kasIn n (kas_sort n) = true → (transB n lt' = true → firstB n lt' = true) →
      (kasRun lt (kas_sort n)).size = n ∧ (kasRun lt (kas_sort n)).getD 0 0 < n ∧ ∀ j, j < n → j ≠ (kasRun lt (kas_sort n)).getD 0 0 → lt ((kasRun lt (kas_sort n)).getD 0 0) j = true := by
    intro lt' he hin hb
    rw [kasRun_congr he _ hin]
    have hT : transB n lt' = true := by
      unfold transB
      simp only [List.all_eq_true, List.mem_range, Bool.or_eq_true, Bool.not_eq_true']
      intro i hi j hj k hk
      cases e : lt' i j && lt' j k with
      | false => exact .inl rfl
      | true =>
        simp only [Bool.and_eq_true] at e
        rw [← he i j hi hj, ← he j k hj hk] at e
        exact .inr (he i k hi hk ▸ ht i j k hi hj hk e.1 e.2)
    have hF := hb hT
    unfold firstB at hF
    simp only [Bool.and_eq_true, decide_eq_true_eq, List.all_eq_true, List.mem_range, Bool.or_eq_true, beq_iff_eq] at hF
    refine ⟨hF.1.1, hF.1.2, fun j hj hne => ?_⟩
    rcases hF.2 j hj with h | h
    · exact absurd h hne
    · rw [he _ _ hF.1.2 hj]; exact h
  match n, h2, h4 with
  | 2, _, _ =>
    refine fin (ltBy (lt 0 1) false false false false false) (fun i j hi hj => ?_) kasIn_sort.1 (first2 _)
    rw [hf i j hi hj]
    match i, j, hi, hj with
    | 0, 0, _, _ => rfl
    | 0, 1, _, _ => rfl
    | 1, 0, _, _ => rfl
    | 1, 1, _, _ => rfl
  | 3, _, _ =>
    refine fin (ltBy (lt 0 1) (lt 0 2) false (lt 1 2) false false) (fun i j hi hj => ?_) kasIn_sort.2.1 (first3 _ _ _)
    rw [hf i j hi hj]
    match i, j, hi, hj with
    | 0, 0, _, _ => rfl
    | 0, 1, _, _ => rfl
    | 0, 2, _, _ => rfl
    | 1, 0, _, _ => rfl
    | 1, 1, _, _ => rfl
    | 1, 2, _, _ => rfl
    | 2, 0, _, _ => rfl
    | 2, 1, _, _ => rfl
    | 2, 2, _, _ => rfl
  | 4, _, _ =>
    refine fin (ltBy (lt 0 1) (lt 0 2) (lt 0 3) (lt 1 2) (lt 1 3) (lt 2 3)) (fun i j hi hj => ?_) kasIn_sort.2.2 (first4 _ _ _ _ _ _)
    rw [hf i j hi hj]
    match i, j, hi, hj with
    | 0, 0, _, _ => rfl
    | 0, 1, _, _ => rfl
    | 0, 2, _, _ => rfl
    | 0, 3, _, _ => rfl
    | 1, 0, _, _ => rfl
    | 1, 1, _, _ => rfl
    | 1, 2, _, _ => rfl
    | 1, 3, _, _ => rfl
    | 2, 0, _, _ => rfl
    | 2, 1, _, _ => rfl
    | 2, 2, _, _ => rfl
    | 2, 3, _, _ => rfl
    | 3, 0, _, _ => rfl
    | 3, 1, _, _ => rfl
    | 3, 2, _, _ => rfl
    | 3, 3, _, _ => rfl
def kLt (a b : Int × Int) : Bool := keyB a.1 a.2 b.1 b.2
theorem kLt_trans {a b c : Int × Int} (h1 : kLt a b = true) (h2 : kLt b c = true) : kLt a c = true := by
  unfold kLt keyB at *
  split at h1 <;> split at h2 <;> split <;> simp_all <;> omega
theorem kLt_self {a : Int × Int} : kLt a a = false := by simp [kLt, keyB]
theorem kLt_not {a b : Int × Int} (h : a ≠ b) : kLt b a = !kLt a b := by
  obtain ⟨a1, a2⟩ := a
  obtain ⟨b1, b2⟩ := b
  unfold kLt keyB
  by_cases e : a1 = b1
  · subst e
    have : a2 ≠ b2 := fun q => h (by rw [q])
    simp only [if_true]
    rw [← decide_not]
    exact decide_eq_decide.mpr (by omega)
  · simp only [if_neg e, if_neg (Ne.symm e)]
    rw [← decide_not]
    exact decide_eq_decide.mpr (by omega)

/-- the tuples (key, place) -/
inductive KeyTups (h : Heap) : Nat → List Value → List (Int × Int) → Prop
  | nil {i} : KeyTups h i [] []
  | cons {i T K c n t t1 t2 vs ks} : IsTup h T [.ref K, .int (i : Nat) t].toArray → IsTup h K [.int c t1, .int n t2].toArray → KeyTups h (i + 1) vs ks → KeyTups h i (.ref T :: vs) ((c, n) :: ks)
theorem KeyTups.length {h : Heap} : ∀ {i : Nat} {vs : List Value} {ks : List (Int × Int)}, KeyTups h i vs ks → vs.length = ks.length
  | _, _, _, .nil => rfl
  | _, _, _, .cons _ _ r => by simp [r.length]
theorem IsTup.neL {h : Heap} {L T : Addr} {m : Str → Option Value} {xs : Array Value} (N : h.Ns L m) (x : IsTup h T xs) : T ≠ L := by
  obtain ⟨oL, k1, k2, e1, e2, _⟩ := N
  obtain ⟨o, e3, e4, k, e5⟩ := x
  intro e
  rw [e, e1] at e3
  cases e3
  rw [e2] at e5
  cases e5
theorem IsTup.but {h h' : Heap} {L T : Addr} {m : Str → Option Value} {xs : Array Value} (N : h.Ns L m) (x : IsTup h T xs) (k : ∀ b o, b ≠ L → h.get? b = some o → h'.get? b = some o) : IsTup h' T xs := by
  have hne := IsTup.neL N x
  obtain ⟨o, ho, r⟩ := x
  exact ⟨o, k _ _ hne ho, r⟩
theorem KeyTups.but {h h' : Heap} {L : Addr} {m : Str → Option Value} (N : h.Ns L m) (k : ∀ b o, b ≠ L → h.get? b = some o → h'.get? b = some o) : ∀ {i : Nat} {vs : List Value} {ks : List (Int × Int)}, KeyTups h i vs ks → KeyTups h' i vs ks
  | _, _, _, .nil => .nil
  | _, _, _, .cons a b r => .cons (IsTup.but N a k) (IsTup.but N b k) (r.but N k)
theorem KeyTups.firsts {h : Heap} : ∀ {i : Nat} {vs : List Value} {ks : List (Int × Int)}, KeyTups h i vs ks → ∃ fs, KatTups h vs fs ∧ fs.length = ks.length ∧ ∀ v ∈ fs, ∃ K xs, v = .ref K ∧ IsTup h K xs
  | _, _, _, .nil => ⟨[], trivial, rfl, fun _ h => nomatch h⟩
  | _, _, _, .cons a b r => by
    obtain ⟨fs, h1, h2, h3⟩ := r.firsts
    obtain ⟨o, ho, hc, k, hd⟩ := a
    refine ⟨_ :: fs, KatTups.cons ho hc hd rfl h1, by simp [h2], fun v hv => ?_⟩
    rcases List.mem_cons.mp hv with rfl | hv
    · exact ⟨_, _, rfl, b⟩
    · exact h3 v hv
theorem KeyTups.at {h : Heap} : ∀ {i : Nat} {vs : List Value} {ks : List (Int × Int)}, KeyTups h i vs ks → ∀ j, j < ks.length →
    ∃ T K t t1 t2, vs.getD j Value.none = .ref T ∧ IsTup h T [.ref K, .int (i + j : Nat) t].toArray ∧ IsTup h K [.int (ks.getD j (0, 0)).1 t1, .int (ks.getD j (0, 0)).2 t2].toArray
  | _, _, _, .nil, j, hj => absurd hj (Nat.not_lt_zero _)
  | i, _, _, .cons (T := T) (K := K) a b r, 0, hj => ⟨T, K, _, _, _, rfl, a, b⟩
  | i, _, _, .cons a b r, j + 1, hj => by
    obtain ⟨T, K, t, t1, t2, e, h1, h2⟩ := r.at j (by simpa using hj)
    exact ⟨T, K, t, t1, t2, e, by rwa [show i + (j + 1) = i + 1 + j by omega], h2⟩

section
variable {w : World} {A : Around} {s : Shared} {E : Value → Shared → Prop} {Q : Value → Shared → Prop} {g : Heap} {L : Addr} {m : Str → Option Value} {news : List (Addr × Obj)}
theorem tup2_reads {h : Heap} {K : Addr} {a b : Int} {t1 t2 : Tok} (x : IsTup h K [.int a t1, .int b t2].toArray) : Reads h (.ref K) (.tuple [.int a, .int b]) [] := by
  obtain ⟨o, ho, hc, n, hd⟩ := x
  exact .tuple ho hc hd (.cons (as := []) (.int _ _) (.cons (as := []) (.int _ _) .nil))
theorem keyAsk {vs : List Value} {ks : List (Int × Int)} (K : KeyTups s.heap 0 vs ks) (hd : ∀ i j, i < ks.length → j < ks.length → i ≠ j → ks.getD i (0, 0) ≠ ks.getD j (0, 0)) (hu : A.units + 100 < cLine)
    (i j : Nat) (hi : i < ks.length) (hj : j < ks.length) (C : Bool → Shared → Prop) (h : C (kLt (ks.getD i (0, 0)) (ks.getD j (0, 0))) s) : kas_ask PR w A (tuples' false) vs i j C s := by
  obtain ⟨T, K1, t, t1, t2, e1, a1, a2⟩ := K.at i hi
  obtain ⟨T', K1', t', t1', t2', e2, b1, b2⟩ := K.at j hj
  show wpAny _ _ (keyLt' (tuples' false) (vs.getD i Value.none) (vs.getD j Value.none)) C _ _
  rw [e1, e2]
  obtain ⟨o, ho, hc, n, hdd⟩ := a1
  obtain ⟨o', ho', hc', n', hdd'⟩ := b1
  refine kat_lt ho hdd ho' hdd' ?_
  show KatLex _ _ _ _ _ _ [(.ref K1, .ref K1'), (.int _ _, .int _ _)] 0 s
  refine kat_cons ?_
  have key : SeqAt.EqAt A s (.ref K1) (.ref K1') (PyData.eqv (.tuple [.int (ks.getD i (0, 0)).1, .int (ks.getD i (0, 0)).2]) (.tuple [.int (ks.getD j (0, 0)).1, .int (ks.getD j (0, 0)).2])) :=
    (keq_at (A := A) (tup2_reads a2) (tup2_reads b2) rfl rfl (by show A.units + 1 + 64 < _; omega)).of_in1
  refine key _ _ _ _ ?_
  by_cases hij : i = j
  · subst hij
    rw [kLt_self] at h
    have e : PyData.eqv (.tuple [.int (ks.getD i (0, 0)).1, .int (ks.getD i (0, 0)).2]) (.tuple [.int (ks.getD i (0, 0)).1, .int (ks.getD i (0, 0)).2]) = true := by simp [PyData.eqv, PyData.eqvAll]
    rw [e]
    refine kat_yes (kat_cons ?_)
    refine SeqAt.EqAt.int_int _ _ _ _ _ _ _ _ ?_
    simp only [beq_self_eq_true]
    exact kat_yes (kat_nil h)
  · have hne := hd i j hi hj hij
    generalize ks.getD i (0, 0) = p at *
    generalize ks.getD j (0, 0) = q at *
    have e : PyData.eqv (.tuple [.int p.1, .int p.2]) (.tuple [.int q.1, .int q.2]) = false := by
      simp only [PyData.eqv, PyData.eqvAll, Bool.and_true]
      cases e1 : (p.1 == q.1 && p.2 == q.2) with
      | false => rfl
      | true =>
        simp only [Bool.and_eq_true, beq_iff_eq] at e1
        exact absurd (Prod.ext e1.1 e1.2) hne
    rw [e]
    refine kat_no ?_
    rw [Bool.false_and]
    refine kat_one _ _ (keyLt a2 b2 (by omega) ?_)
    exact h

theorem keysSorted {l : Addr} {vs : List Value} {ks : List (Int × Int)} (F : Fm g L s.heap m news) (hl : s.heap.IsList l vs.toArray) (K : KeyTups s.heap 0 vs ks)
    (hd : ∀ i j, i < ks.length → j < ks.length → i ≠ j → ks.getD i (0, 0) ≠ ks.getD j (0, 0)) (h1 : 1 ≤ ks.length) (h4 : ks.length ≤ 4) (hu : A.units + 110 < cLine)
    (hQ : ∀ D h' tk (out : List Value) i, i < ks.length → (∀ j, j < ks.length → j ≠ i → kLt (ks.getD i (0, 0)) (ks.getD j (0, 0)) = true) → h'.IsList D out.toArray → out[0]? = some (vs.getD i Value.none) →
      (∀ b o, b ≠ L → s.heap.get? b = some o → h'.get? b = some o) → Fm g L h' m news → Q (.ref D) { s with heap := h', toks := tk }) :
    wpAny (model PR w) A (call (.builtin "sorted") [.ref l]) Q E s := by
  have hlen := K.length
  by_cases hone : ks.length = 1
  · obtain ⟨v, rfl⟩ : ∃ v, vs = [v] := by
      match vs, hlen.trans hone with
      | [v], _ => exact ⟨v, rfl⟩
    refine sortedOne hl ?_
    obtain ⟨e, he⟩ := sortedAll_at s.heap [v] #[v]
    have k : Ext s.heap (sortedAll s.heap [v] #[v]) := fun b o hb => sortedAll_old hb
    exact hQ _ _ s.toks [v] 0 (by omega) (fun j hj hne => absurd (by omega) hne) ⟨_, he, rfl, _, rfl⟩ rfl (fun b o _ hb => k b o hb) (F.ext k)
  · have h2 : 2 ≤ vs.length := by omega
    obtain ⟨all, ha, hN⟩ := allObjs s.heap L
    refine kat_sorted (h₀ := {}) (L := L) (m := m) (news := all) ⟨F.ns, fun b o e => (by cases e), Nat.zero_le _⟩ hN hl h2 (by omega) fun D e1 h' F' N' hlt => ?_
    have keep : ∀ b o, b ≠ L → s.heap.get? b = some o → h'.get? b = some o := fun b o hb e => (N' _ (.tail _ (ha b o hb e))).1
    have K' := K.but F.ns keep
    obtain ⟨fs, hfs, hfl, hft⟩ := K'.firsts
    refine kat_kind hfs (by omega) (T := .type "tuple") (fun v hv => ?_) rfl ?_
    · obtain ⟨K1, xs, rfl, o, ho, hc, n, hdd⟩ := hft v hv
      rw [← hc]
      exact (show Looks _ h' (typeOf (.ref K1)) o.cls from (Looks.ld ho).andThen .now)
    · have fo := first_of (n := ks.length) (lt := fun i j => kLt (ks.getD i (0, 0)) (ks.getD j (0, 0))) (by omega) h4 (fun i j hi hj => by
        unfold fullB
        by_cases hij : i < j
        · rw [if_pos hij]
        · rw [if_neg hij]
          by_cases hji : j < i
          · rw [if_pos hji]
            exact kLt_not (hd j i hj hi (by omega))
          · rw [if_neg hji]
            have : i = j := by omega
            subst this
            exact kLt_self) fun i j k _ _ _ => kLt_trans
      rw [hlen]
      refine kasPure (lt := fun i j => kLt (ks.getD i (0, 0)) (ks.getD j (0, 0))) (n := ks.length) (fun i j hi hj C hC => ?_) _ ?_ ?_
      · exact keyAsk (s := { s with heap := h' }) K' hd (by show A.units + 1 + 1 + 100 < _; omega) i j hi hj C hC
      · have : ks.length = 2 ∨ ks.length = 3 ∨ ks.length = 4 := by omega
        rcases this with e | e | e <;> rw [e]
        · exact kasIn_sort.1
        · exact kasIn_sort.2.1
        · exact kasIn_sort.2.2
      · generalize kasRun _ _ = p at fo
        obtain ⟨f1, f2, f3⟩ := fo
        have hDne : ∀ q ∈ all, q.1 ≠ D := fun q hq => Nat.ne_of_lt (hlt q hq)
        refine KasFin.intro F' N' (.head hDne) fun h'' c F'' N'' => ?_
        have keep'' : ∀ b o, b ≠ L → s.heap.get? b = some o → h''.get? b = some o := fun b o hb e => (N'' _ (.tail _ (ha b o hb e))).1
        refine hQ D h'' s.toks _ (p.getD 0 0) f2 f3 ⟨_, (N'' _ (.head _)).1, rfl, _, rfl⟩ ?_ keep'' (F.extBut F''.ns keep'')
        have hp : 0 < p.toList.length := by rw [Array.length_toList]; omega
        rw [List.getElem?_map, List.getElem?_eq_getElem hp]
        simp [Array.getD, show 0 < p.size by omega]
end

section
variable {w : World} {A : Around} {s : Shared} {E : Value → Shared → Prop} {g : Heap} {L : Addr} {m : Str → Option Value} {news : List (Addr × Obj)}
  {scope : Scope} {cl : List (Str × Addr)} {elt : Expr} {ifs : List Expr} {env : Env}
theorem evEnum {Q : Value → Shared → Prop} {a b y : Str} {pa pb tp p1 p2 py pos : Pos} {kk : Nat} {t : Addr} {xs : List Value} (C : Cx w g) (hh : A.handled = none) (F : Fm g L s.heap m news) (hl : s.heap.IsList t xs.toArray) (hsz : xs.length ≤ sizeLine)
    (hL : env.locals = L) (hke : env.scope.kind = .function) (hg : env.globals = mainGlobals) (hb : env.builtins = builtinsNs) (hen : env.kindOf "enumerate" = some .globalImplicit) (hy : env.kindOf y = some .local) (hdb : (y == ("__debug__" : Str)) = false) (hv : m y = some (.ref t))
    (hs : ∀ x, foldedSetIterable (.Call (.Name "enumerate" p1) [.Name y py] [] p2) env x = pure x)
    (hclos : closureFor scope env = pure cl) (hcell : ∀ y ∈ scope.names, y.2 ≠ .cell) (hnames : ∀ y ∈ scope.names, y.2 = .local → scope.names.lookup y.1 = some .local)
    (ha' : scope.names.lookup a = some .local) (hb' : scope.names.lookup b = some .local) (hk : scope.kind = .function) (ok : Nat → Bool) (Out : Nat → Heap → Value → Prop) (hOut : ∀ i g g' y, Ext g g' → Out i g y → Out i g' y)
    (turn : ∀ (i : Nat) v, xs[i]? = some v → CWork PR w A (fun C => compEnvC scope cl C env) ifs elt s g news (fun m₁ => m₁ b = some v ∧ (b ≠ a → ∃ t, m₁ a = some (.int i t))) (ok i) (Out i))
    (done : ∀ D h' tk ys k, s.heap.get? D = none → Outs Out ok h' xs.length ys → Ext s.heap h' → Fm g L h' m ((D, listOf ys.toArray k) :: news) → Q (.ref D) { s with heap := h', toks := tk }) :
    wpAny (model PR w) A (eval (.ListComp elt [⟨.Tuple [.Name a pa, .Name b pb] kk tp, .Call (.Name "enumerate" p1) [.Name y py] [] p2, ifs, 0⟩] scope pos) env) Q E s := by
  refine evComp (Q := Q) (L := L) ?_ hclos hcell hk hnames hs
  refine Call_ ?_
  refine nmB (F.cx C) hke hg hb hen (by decide) (by k_is) (by boot_fast) (by decide) ?_
  refine PyProof.Rows.callWith_type1 ?_
  refine spliced_more ?_
  refine nmL F hL hke hy hdb hv ?_
  refine spliced_nil ?_
  exact iterCompE (Q := Q) hh F hl hsz ha' hb' hk ok Out hOut turn done
end
theorem Outs.all {Out : Nat → Heap → Value → Prop} {h : Heap} {i : Nat} {ys : List Value} (H : Outs Out (fun _ => true) h i ys) : ys.length = i ∧ ∀ j, j < i → ∃ y, ys[j]? = some y ∧ Out j h y := by
  induction H with
  | nil => exact ⟨rfl, fun j hj => absurd hj (Nat.not_lt_zero _)⟩
  | skip a _ _ => cases a
  | @snoc i ys y a b c ih =>
    refine ⟨by simp [ih.1], fun j hj => ?_⟩
    by_cases e : j = i
    · subst e
      exact ⟨y, by rw [List.getElem?_append_right (by omega), ih.1]; simp, c⟩
    · obtain ⟨y', h1, h2⟩ := ih.2 j (by omega)
      exact ⟨y', by rw [List.getElem?_append_left (by omega)]; exact h1, h2⟩
theorem keyTups_of {h : Heap} : ∀ {ks : List (Int × Int)} {vs : List Value} {i : Nat}, vs.length = ks.length →
    (∀ j, j < ks.length → ∃ T K t t1 t2, vs[j]? = some (.ref T) ∧ IsTup h T [.ref K, .int (i + j : Nat) t].toArray ∧ IsTup h K [.int (ks.getD j (0, 0)).1 t1, .int (ks.getD j (0, 0)).2 t2].toArray) → KeyTups h i vs ks
  | [], [], _, _, _ => .nil
  | (c, n) :: ks, v :: vs, i, hl, H => by
    obtain ⟨T, K, t, t1, t2, e, h1, h2⟩ := H 0 (by simp)
    cases e
    refine .cons h1 h2 (keyTups_of (by simpa using hl) fun j hj => ?_)
    obtain ⟨T', K', t', t1', t2', e', h1', h2'⟩ := H (j + 1) (by simpa using hj)
    exact ⟨T', K', t', t1', t2', by simpa using e', by rwa [show i + 1 + j = i + (j + 1) by omega], h2'⟩
section
variable {prog : Program} {w : World} {A : Around} {E : Value → Shared → Prop} {s : Shared} {Q : Value → Shared → Prop}
/-- a list held against an empty one -/
theorem eqNil {l b : Addr} {xs : List Value} (hl : s.heap.IsList l xs.toArray) (hb : s.heap.IsList b ([] : List Value).toArray) (hu : A.units < cLine) (h : Q (.bool xs.isEmpty) s) : wpAny (model prog w) A (compareOp .Eq (.ref l) (.ref b)) Q E s := by
  cases xs with
  | nil => exact SeqAt.eq_listAt (e := fun _ => true) hl hb rfl hu (fun j h1 _ => absurd h1 (by simp)) (by simpa using h)
  | cons x r => exact SeqAt.eq_list_lengthsAt hl hb (by simp) hu h
end
def firstLeft (xs : List (Addr × Rt)) : List (Addr × Rt) := xs.filter fun p => (vals ((xs.filter fun q => q.2.as == p.2.as).filter fun q => decide (q.2.med < p.2.med))).isEmpty
theorem firstLeft_sub {xs : List (Addr × Rt)} : ∀ p ∈ firstLeft xs, p ∈ xs := fun _ hp => (List.mem_filter.mp hp).1
section
variable {w : World} {A : Around} {s : Shared} {E : Value → Shared → Prop} {Q : Value → Shared → Prop}
theorem law_first {xs : List (Addr × Rt)} {rl : Addr} (C : Cx w s.heap) (hdp : A.depth + 1 < recursionLimit) (hh : A.handled = none) (hu : A.units + 200 < cLine)
    (hL : s.heap.IsList rl (vals xs).toArray) (hR : AreR w s.heap xs) (hnd : (xs.map fun p => p.2.num).Nodup) (hsz : xs.length ≤ 4) (hpos : 0 < (firstLeft xs).length)
    (hQ : ∀ T Lf i p t h' tk, (firstLeft xs)[i]? = some p → (∀ q ∈ firstLeft xs, q ≠ p → kLt (p.2.cost, p.2.num) (q.2.cost, q.2.num) = true) → Ext s.heap h' → IsTup h' T [.int (i : Nat) t, .ref Lf].toArray →
      h'.IsList Lf (vals (firstLeft xs)).toArray → Q (.ref T) { s with heap := h', toks := tk }) :
    wpAny (model PR w) A (call (.ref 128) [.ref rl]) Q E s := by
  refine' callC (binds := [("routes", .ref rl)]) C ?k6 ?k7 (by omega) ?k9 ?kB ?c5 ?_ ?c2 ?c3 ?c4; (((case k6 => k_is); (case k7 => k_is); (case k9 => exact BindsTo.of_eq rfl); (case c5 => decide); (case kB => rfl); (case c2 => exact rfl); (case c3 => exact rfl); (case c4 => exact rfl)))
  intro L h₁ tk cells F Y
  obtain ⟨o, rfl, d⟩ := CellsAre.one Y
  replace d : o.data = .cell none := d
  clear Y
  walk_at "mes"
  refine wpAny_For ?_
  walk_at "mes"
  rename_i T _ hT _ _ _ F₀
  refine iterList (A := A.deeper _) (xs := vals xs) hh F₀ hL (fun i _ m' news' => m' "routes" = some (.ref rl) ∧ m' "left" = some (.ref T) ∧
    ∃ o k v₀, o.data = .cell v₀ ∧ news' = [(T, listOf (vals ((xs.take i).filter fun p => (vals ((xs.filter fun q => q.2.as == p.2.as).filter fun q => decide (q.2.med < p.2.med))).isEmpty)).toArray k), (L + 1, o)]) ⟨rfl, rfl, o, _, _, d, by simp; rfl⟩ ?_ ?_
  · clear hT F F₀
    rintro i hi v g₁ m₁ news₁ own h tk hv ⟨hm1, hm2, o, k, v₀, d, rfl⟩ x₁ F₂
    obtain ⟨p, hp, rfl⟩ : ∃ p, xs[i]? = some p ∧ v = .ref p.1 := by
      rw [List.getElem?_map] at hv
      cases e : xs[i]? with
      | none => rw [e] at hv; cases hv
      | some p => rw [e] at hv; exact ⟨p, rfl, by cases hv; rfl⟩
    replace C := C.keeps x₁
    replace hR := hR.mono x₁
    have hl₁ := hL.at fun _ => x₁ _ _
    have R := hR p (List.mem_of_getElem? hp)
    have hi' : i < xs.length := by simpa using hi
    have hgi : xs[i] = p := by simpa [hi'] using hp
    have hfl : ∀ f : Addr × Rt → Bool, (vals ((xs.take i).filter f)).length ≤ sizeLine := fun f => by
      have := List.length_filter_le f (xs.take i)
      simp only [List.length_take] at this
      simp only [List.length_map, sizeLine_eq]; omega
    have hsz' : xs.length ≤ 1000 := by omega
    refine PySem.wpAny_assign_Name ?_
    refine stC F₂ rfl rfl rfl (.app (.tail .head) own) d fun h₂ oR dR F₂' => ?_
    refine hideQ fun R₀ hR₀ => ?_
    walk_at "mes"
    clear F₂
    refine' asFilt (xs := xs) (fun q => q.2.as == p.2.as) ?hh ?F ?hL ?hke ?hsrc ?hdb ?hv ?hl ?hR ?hsz ?hy ?hsw ?hclos ?hcell ?hnames ?hx ?hk ?hdb' ?_ ?_; (case hsrc => rfl); (case hsw => rfl); (((case hh => assumption); (case F => with_reducible assumption); (case hL => rfl); (case hke => rfl); (case hy => rfl); (case hdb => decide); (case hv => first | rfl | assumption); (case hclos => with_unfolding_all rfl); (case hcell => decide); (case hnames => decide); (case hl => (first | exact Fm.list (by with_reducible assumption) (by with_reducible assumption) | exact Fm.listIn (by with_reducible assumption) (by ((repeat (first | exact List.Mem.head _ | refine List.Mem.tail _ ?_ | refine List.mem_append_right _ ?_)))))); (case hR => assumption); (case hsz => omega); (case hx => rfl); (case hk => rfl); (case hdb' => decide)))
    · rintro a r Ca g₂ m₂ h₂ tk₂ led hp₂ x₂ hn R₂ hm F₄
      have C₂ := C.keeps x₂
      have hrc : g₂.IsCell (L + 1) (some (.ref p.1)) := ⟨_, hn _ (List.mem_append_right _ (.tail _ (.head _))), dR⟩
      obtain ⟨n8, dd, pv, t, R₂⟩ := R₂
      obtain ⟨n8', dd', pv', t', R₃⟩ := R.mono x₂
      have h1 := R₂.tup
      have h2 := R₂.attrs
      have h3 := R₃.tup
      have h4 := R₃.attrs
      walk_at "mes"
      refine pathEq (R₂.path.mono F₄.keep) (R₃.path.mono F₄.keep) (by show A.units + 3 + 64 < _; omega) ?_
      walk_at "mes"
      exact ⟨rfl, KeptX.same F₄⟩
    intro Dr h₃ tk₃ kr hnr xr Fr
    have hR' : AreR w g₁ (xs.filter fun q => q.2.as == p.2.as) := hR.sub fun p hp => (List.mem_filter.mp hp).1
    have hsz'' := Nat.le_trans (List.length_filter_le (fun q => q.2.as == p.2.as) xs) hsz'
    dsimp only
    refine wpAny_execs_cons ?_
    refine wpAny_If ?_
    refine wpAny_isTrue_Compare1 ?_
    refine' evFilt (xs := xs.filter fun q => q.2.as == p.2.as) (fun q => decide (q.2.med < p.2.med)) ?hh ?F ?hL ?hke ?hy ?hdb ?hv ?hl ?hR ?hsz ?hclos ?hcell ?hnames ?hx ?hk ?hdb' ?_ ?_; (((case hh => assumption); (case F => with_reducible assumption); (case hL => rfl); (case hke => rfl); (case hy => rfl); (case hdb => decide); (case hv => first | rfl | assumption); (case hclos => with_unfolding_all rfl); (case hcell => decide); (case hnames => decide); (case hl => (first | exact Fm.list (by with_reducible assumption) (by with_reducible assumption) | exact Fm.listIn (by with_reducible assumption) (by ((repeat (first | exact List.Mem.head _ | refine List.Mem.tail _ ?_ | refine List.mem_append_right _ ?_)))))); (case hR => assumption); (case hsz => omega); (case hx => rfl); (case hk => rfl); (case hdb' => decide)))
    · rintro a r Ca g₂ m₂ h₂ tk₂ led hp₂ x₂ hn R₂ hm F₄
      have C₂ := C.keeps x₂
      have hrc : g₂.IsCell (L + 1) (some (.ref p.1)) := ⟨_, hn _ (.tail _ (List.mem_append_right _ (.tail _ (.head _)))), dR⟩
      obtain ⟨n8, dd, pv, t, R₂⟩ := R₂
      obtain ⟨n8', dd', pv', t', R₃⟩ := R.mono x₂
      have h1 := R₂.tup
      have h2 := R₂.attrs
      have h3 := R₃.tup
      have h4 := R₃.attrs
      walk_at "mes"
      exact ⟨rfl, KeptX.same F₄⟩
    intro Df h₄ tk₄ kf hnf xf Ff
    clear Fr F₂'
    walk_at "mes"
    rename_i Te h₅ _ _ F₅
    refine eqNil (xs := vals ((xs.filter fun q => q.2.as == p.2.as).filter fun q => decide (q.2.med < p.2.med))) (F₅.listIn (.tail _ (.head _))) (F₅.listIn (.head _)) (by show A.units + 3 < _; omega) ?_
    walk_at "mes"
    cases e : (vals ((xs.filter fun q => q.2.as == p.2.as).filter fun q => decide (q.2.med < p.2.med))).isEmpty with
    | false =>
      rw [if_neg Bool.false_ne_true]
      walk_at "mes"
      refine hR₀ _ _ ?_
      refine ⟨g₁, _, _, _, _, rfl, Ext.refl _, F₅.tail.tail.tail, hm1, hm2, _, k, _, dR, ?_⟩
      rw [List.take_succ_eq_append_getElem hi', List.filter_append, hgi]
      simp only [List.filter_cons, List.filter_nil, e]
      simp
    | true =>
      rw [if_pos rfl]
      walk_at "mes"
      have F₆ := F₅.tail.tail.tail
      clear F₅ Ff
      refine' appendFm ?F ?U ?a ?_; (case F => with_reducible assumption); (case U => (first | exact At.head | exact At.tail (At.head) | exact At.tail (At.tail (At.head)) | exact At.tail (At.tail (At.tail (At.head))) | exact At.tail (At.tail (At.tail (At.tail (At.head)))) | exact At.tail (At.tail (At.tail (At.tail (At.tail (At.head))))) | exact At.tail (At.tail (At.tail (At.tail (At.tail (At.tail (At.head)))))) | exact At.app (At.head) _ | exact At.app (At.tail (At.head)) _ | exact At.app (At.tail (At.tail (At.head))) _ | exact At.app (At.tail (At.tail (At.tail (At.head)))) _ | exact At.app (At.tail (At.tail (At.tail (At.tail (At.head))))) _ | exact At.tail (At.app (At.head) _) | exact At.tail (At.app (At.tail (At.head)) _) | exact At.tail (At.app (At.tail (At.tail (At.head))) _) | exact At.tail (At.app (At.tail (At.tail (At.tail (At.head)))) _) | exact At.tail (At.app (At.tail (At.tail (At.tail (At.tail (At.head))))) _) | exact At.tail (At.tail (At.app (At.head) _)) | exact At.tail (At.tail (At.app (At.tail (At.head)) _)) | exact At.tail (At.tail (At.app (At.tail (At.tail (At.head))) _)) | exact At.tail (At.tail (At.app (At.tail (At.tail (At.tail (At.head)))) _)) | exact At.tail (At.tail (At.app (At.tail (At.tail (At.tail (At.tail (At.head))))) _)) | exact At.tail (At.tail (At.tail (At.app (At.head) _))) | exact At.tail (At.tail (At.tail (At.app (At.tail (At.head)) _))) | exact At.tail (At.tail (At.tail (At.app (At.tail (At.tail (At.head))) _))) | exact At.tail (At.tail (At.tail (At.app (At.tail (At.tail (At.tail (At.head)))) _))) | exact At.tail (At.tail (At.tail (At.app (At.tail (At.tail (At.tail (At.tail (At.head))))) _))))); (case a => exact hfl _)
      intro h₇ k₇ F₇
      walk_at "mes"
      refine hR₀ _ _ ?_
      refine ⟨g₁, _, _, _, _, rfl, Ext.refl _, F₇, hm1, hm2, _, k₇, _, dR, ?_⟩
      rw [List.take_succ_eq_append_getElem hi', List.filter_append, hgi]
      simp only [List.filter_cons, List.filter_nil, e]
      simp [vals]
  · rintro g₂ m₂ news₂ h tk ⟨hm1, hm2, o, k, v₀, d, rfl⟩ x₂ F₂
    rw [show (vals xs).length = xs.length by simp, List.take_length] at F₂
    obtain ⟨g₃, x₃, F₃, hTg⟩ := F₂.sink1
    clear F₂ F₀ F
    have hTl : g₃.IsList T (vals (firstLeft xs)).toArray := ⟨_, hTg, rfl, _, rfl⟩
    have C₃ := C.keeps (x₂.trans x₃)
    have hR₃ := (hR.mono (x₂.trans x₃)).sub (firstLeft_sub (xs := xs))
    have hfl : (firstLeft xs).length ≤ 4 := Nat.le_trans (List.length_filter_le _ _) hsz
    have hnd' : ((firstLeft xs).map fun p => p.2.num).Nodup := hnd.sublist (List.Sublist.map _ List.filter_sublist)
    generalize firstLeft xs = ys at *
    walk_at "mes"
    refine' evEnum (xs := vals ys) (ok := fun _ => true) (Out := fun i h y => ∃ T K t t1 t2 p, ys[i]? = some p ∧ y = .ref T ∧ IsTup h T [.ref K, .int (i : Nat) t].toArray ∧ IsTup h K [.int p.2.cost t1, .int p.2.num t2].toArray) C₃ ?hh ?F ?hl ?hsz ?hL ?hke ?hg ?hb ?hen ?hy ?hdb ?hv ?hs ?hclos ?hcell ?hnames ?ha ?hb' ?hk ?hO ?_ ?_
    case hh => assumption
    case F => exact F₃
    case hl => exact F₃.list hTl
    case hsz => simp [sizeLine_eq]; omega
    case hL => rfl
    case hke => rfl
    case hg => rfl
    case hb => rfl
    case hen => rfl
    case hy => rfl
    case hdb => decide
    case hv => exact hm2
    case hs => intro _; rfl
    case hclos => with_unfolding_all rfl
    case hcell => decide
    case hnames => decide
    case ha => rfl
    case hb' => rfl
    case hk => rfl
    case hO => exact fun i g g' y k ⟨T, K, t, t1, t2, p, a, b, c, d⟩ => ⟨T, K, t, t1, t2, p, a, b, c.keeps k, d.keeps k⟩
    · rintro i v hv Ca g₄ m₄ h₄ tk₄ led x₄ hn ⟨hn1, hn2⟩ F₄
      obtain ⟨ti, hn2⟩ := hn2 (by decide)
      obtain ⟨p, hp, rfl⟩ : ∃ p, ys[i]? = some p ∧ v = .ref p.1 := by
        rw [List.getElem?_map] at hv
        cases e : ys[i]? with
        | none => rw [e] at hv; cases hv
        | some p => rw [e] at hv; exact ⟨p, rfl, by cases hv; rfl⟩
      have C₄ := C₃.keeps x₄
      have R := (hR₃ p (List.mem_of_getElem? hp)).mono x₄
      refine wpAny_pure ⟨rfl, (fun e => nomatch e), fun _ => ?_⟩
      walk_at "mes"
      refine law_key (F₄.cx C₄) (by show A.depth + 1 < _; omega) (R.mono F₄.keep) fun K t1 t2 h₅ tk₅ hK x₅ hKt => ?_
      obtain ⟨oK, hoK, cK, nK, dK⟩ := hKt
      obtain ⟨g₅, x₆, F₅, hg₅⟩ := F₄.into x₅ hK hoK
      clear F₄
      have C₅ := C₄.keeps x₆
      walk_at "mes"
      rename_i T' h₆ _ _ F₆
      obtain ⟨g₆, x₇, F₇, hg₆⟩ := F₆.sink1
      exact ⟨g₆, _, _, _, rfl, x₆.trans x₇, F₇, T', K, ti, t1, t2, p, hp, rfl, ⟨_, hg₆, rfl, _, rfl⟩, ⟨oK, x₇ _ _ hg₅, cK, nK, dK⟩⟩
    · intro D h₅ tk₅ zs k₅ hD hzs x₅ F₅
      obtain ⟨hlen, hall⟩ := hzs.all
      rw [List.length_map] at hlen hall
      have KT : KeyTups h₅ 0 zs (ys.map fun p => (p.2.cost, p.2.num)) := keyTups_of (by simpa using hlen) fun j hj => by
        obtain ⟨y, h1, T', K, t, t1, t2, p, hp, rfl, a, b⟩ := hall j (by simpa using hj)
        refine ⟨T', K, t, t1, t2, h1, by simpa using a, ?_⟩
        have e : (ys.map fun p => (p.2.cost, p.2.num)).getD j (0, 0) = (p.2.cost, p.2.num) := by
          rw [List.getD_eq_getElem?_getD, List.getElem?_map, hp]; rfl
        rw [e]; exact b
      walk_at "mes"
      refine keysSorted (A := A.deeper _) F₅ (F₅.listIn (.head _)) KT ?_ (by rw [List.length_map]; omega) (by rw [List.length_map]; omega) (by show A.units + 3 + 110 < _; omega) fun D' h₆ tk₆ out i hi hmin hD' h0 keep F₆ => ?_
      · intro i j hi hj hij e
        rw [List.length_map] at hi hj
        rw [List.getD_eq_getElem?_getD, List.getD_eq_getElem?_getD, List.getElem?_map, List.getElem?_map, List.getElem?_eq_getElem hi, List.getElem?_eq_getElem hj] at e
        have e2 : ys[i].2.num = ys[j].2.num := congrArg Prod.snd e
        have := (List.getElem_inj (h₀ := by simpa using hi) (h₁ := by simpa using hj) hnd').mp (by simpa using e2)
        exact hij this
      · rw [List.length_map] at hi
        obtain ⟨T', K, t, t1, t2, e1, a1, a2⟩ := KT.at i (by simpa using hi)
        rw [e1] at h0
        walk_at "mes"
        refine litem hD' (by decide) (by decide) h0 ?_
        walk_at "mes"
        refine item_tupleT (IsTup.but F₅.ns a1 keep) (by decide) (by decide) rfl rfl ?_
        walk_at "mes"
        rename_i T₉ h₉ _ _ F₉
        refine hQ T₉ T i ys[i] t _ _ (List.getElem?_eq_getElem hi) ?_ ((x₂.trans x₃).trans F₉.keep) (by simpa using F₉.tupIn (.head _)) (F₉.list hTl)
        intro q hq hne
        obtain ⟨j, hj, rfl⟩ := List.getElem_of_mem hq
        have := hmin j (by simpa using hj) (fun e => hne (by subst e; rfl))
        simpa [List.getD_eq_getElem?_getD, hi, hj] using this
end

/-- the list a call of last_rungs or ladder gives back: its last entry -/
def EndsIn (n : Nat) (h : Heap) (D : Addr) (l : Addr) : Prop := ∃ (vs : List Value) (T : Addr) (x : Value), h.IsList D (vs ++ [Value.ref T]).toArray ∧ vs.length ≤ n ∧ IsTup h T [x, .ref l].toArray
section
variable {w : World} {A : Around} {s : Shared} {E : Value → Shared → Prop} {Q : Value → Shared → Prop}
theorem last_rungs {xs : List (Addr × Rt)} {rl pd od : Addr} {b : Bool} (C : Cx w s.heap) (hdp : A.depth + 1 < recursionLimit) (hh : A.handled = none)
    (hL : s.heap.IsList rl (vals xs).toArray) (hR : AreR w s.heap xs) (hP : ∀ p ∈ xs, HasPeer w s.heap pd p.2.num) (hO : IsOpts w s.heap od b) (hne : 0 < xs.length) (hsz : xs.length ≤ 1000)
    (hQ : ∀ D l h' tk, Ext s.heap h' → EndsIn 2 h' D l → h'.IsList l (vals (leastBy (fun r => 20 - r.num) (leastBy (fun r => r.num) xs))).toArray → Q (.ref D) { s with heap := h', toks := tk }) :
    wpAny (model PR w) A (call (.ref 88) [.ref rl, .ref pd]) Q E s := by
  refine' callC (binds := [("left", .ref rl), ("peers", .ref pd)]) C ?k6 ?k7 (by omega) ?k9 ?kB ?c5 ?_ ?c2 ?c3 ?c4; (((case k6 => k_is); (case k7 => k_is); (case k9 => exact BindsTo.of_eq rfl); (case c5 => decide); (case kB => rfl); (case c2 => exact rfl); (case c3 => exact rfl); (case c4 => exact rfl)))
  intro L h₁ tk cells F Y
  obtain ⟨o, rfl, d⟩ := CellsAre.one Y
  replace d : o.data = .cell (some (.ref pd)) := d
  clear Y
  replace ⟨g, x₀, F, hc⟩ := F.sink1
  have B : Bs w g pd od (L + 1) b xs := ⟨C.keeps x₀, hR.mono x₀, fun p hp => (hP p hp).mono x₀, hO.mono x₀, ⟨_, hc, d⟩, hne, hsz⟩
  have hl₁ := hL.at fun _ => x₀ _ _
  clear hc d hne hsz hR hP hO hL C
  refine wpAny_execs_cons ?_
  refine' rung (fun r => r.num) hh (by show A.depth + 1 < _; omega) B.C F rfl rfl rfl rfl rfl rfl hl₁ B.R B.ne B.sz ?hclos ?hcell ?hnames ?hx ?hk ?_ ?_
  case hclos => with_unfolding_all rfl
  case hcell => decide
  case hnames => decide
  case hx => rfl
  case hk => rfl
  · rintro a r Ca g₁ m₁ h tk led hp x R hm F₄
    have C₁ := B.C.keeps x
    have hpc := B.c.keeps x
    walk_at "mes"
    exact teller_id (B.C.keeps (x.trans F₄.keep)) (by show A.depth + 1 < _; omega) (R.mono F₄.keep) ((B.P _ hp).mono (x.trans F₄.keep)) fun t h' tk' x' => ⟨t, rfl, Kept.same (F₄.ext x') trivial⟩
  clear hl₁ F
  intro g₂ D h₂ tk₂ x₂ hl₁ F
  replace B := (B.mono x₂).sub (leastBy_sub (f := (fun r => r.num))) (leastBy_pos (f := (fun r => r.num)) B.ne) leastBy_len
  generalize leastBy (fun r => r.num) xs = xs at *
  replace x₀ := x₀.trans x₂
  clear x₂
  dsimp only
  refine wpAny_execs_cons ?_
  refine rungNew F rfl rfl rfl rfl setM_self rfl fun R T h₂ tk₂ k' F₂ => ?_
  clear F
  have F := F₂.names (m' := setM (setM _ "rungs" (.ref R)) "left" (.ref D)) (setM_swap (by decide))
  clear F₂
  dsimp only
  refine wpAny_execs_cons ?_
  refine' rung (fun _ => 0) hh (by show A.depth + 1 < _; omega) B.C F rfl rfl rfl rfl rfl setM_self hl₁ B.R B.ne B.sz ?hclos ?hcell ?hnames ?hx ?hk ?_ ?_
  case hclos => with_unfolding_all rfl
  case hcell => decide
  case hnames => decide
  case hx => rfl
  case hk => rfl
  · rintro a r Ca g₁ m₁ h tk led hp x R hm F₄
    have C₁ := B.C.keeps x
    have hpc := B.c.keeps x
    obtain ⟨n8, d, pv, t, R⟩ := R
    have h1 := R.tup
    have h2 := R.attrs
    have h3 := R.lo
    walk_at "mes"
    rename_i F₅
    exact ⟨_, rfl, Kept.same F₅.tail trivial⟩
  clear hl₁ F
  intro g₂ D h₂ tk₂ x₂ hl₁ F
  rw [leastBy_const] at hl₁
  replace B := B.mono x₂
  replace x₀ := x₀.trans x₂
  rw [setM_setM] at F
  clear x₂
  dsimp only
  refine wpAny_execs_cons ?_
  refine rungApp F rfl rfl rfl rfl rfl setM_self rfl (by simp) rfl rfl fun g₂ T u h₂ tk₂ k' x₂ hT F₂ => ?_
  clear F
  have F := F₂
  clear F₂
  replace B := B.mono x₂
  replace x₀ := x₀.trans x₂
  replace hl₁ := hl₁.at fun _ => x₂ _ _
  dsimp only
  refine wpAny_execs_cons ?_
  refine' rung (fun r => 20 - r.num) hh (by show A.depth + 1 < _; omega) B.C F rfl rfl rfl rfl rfl setM_self hl₁ B.R B.ne B.sz ?hclos ?hcell ?hnames ?hx ?hk ?_ ?_
  case hclos => with_unfolding_all rfl
  case hcell => decide
  case hnames => decide
  case hx => rfl
  case hk => rfl
  · rintro a r Ca g₁ m₁ h tk led hp x R hm F₄
    have C₁ := B.C.keeps x
    have hpc := B.c.keeps x
    walk_at "mes"
    exact teller_address (B.C.keeps (x.trans F₄.keep)) (by show A.depth + 1 < _; omega) (R.mono F₄.keep) ((B.P _ hp).mono (x.trans F₄.keep)) fun t h' tk' x' => ⟨t, rfl, Kept.same (F₄.ext x') trivial⟩
  clear hl₁ F
  intro g₂ D h₂ tk₂ x₂ hl₁ F
  replace B := (B.mono x₂).sub (leastBy_sub (f := (fun r => 20 - r.num))) (leastBy_pos (f := (fun r => 20 - r.num)) B.ne) leastBy_len
  generalize leastBy (fun r => 20 - r.num) xs = xs at *
  replace x₀ := x₀.trans x₂
  rw [setM_setM] at F
  clear x₂
  dsimp only
  refine wpAny_execs_cons ?_
  refine rungApp F rfl rfl rfl rfl rfl setM_self rfl (by simp) rfl rfl fun g₂ T u h₂ tk₂ k' x₂ hT F₂ => ?_
  clear F
  have F := F₂
  clear F₂
  replace B := B.mono x₂
  replace x₀ := x₀.trans x₂
  replace hl₁ := hl₁.at fun _ => x₂ _ _
  dsimp only
  refine wpAny_execs_cons ?_
  refine wpAny_Return_some ?_
  refine nmL F rfl rfl rfl (by decide) rfl ?_
  exact hQ R D _ _ (x₀.trans F.keep) ⟨_, _, _, F.listIn (.head _), by simp, hT.keeps F.keep⟩ (F.list hl₁)
end

def bestMeds (b : Bool) (xs : List (Addr × Rt)) : List (Addr × Rt) := xs.filter fun p => least ((if b then xs else xs.filter fun q => q.2.as == p.2.as).map fun q => q.2.med) == p.2.med
section
variable {w : World} {A : Around} {s : Shared} {E : Value → Shared → Prop} {Q : Value → Shared → Prop}
theorem best_meds {xs : List (Addr × Rt)} {rl od : Addr} {b : Bool} (C : Cx w s.heap) (hdp : A.depth + 1 < recursionLimit) (hh : A.handled = none)
    (hL : s.heap.IsList rl (vals xs).toArray) (hR : AreR w s.heap xs) (O : IsOpts w s.heap od b) (hsz : xs.length ≤ 1000)
    (hQ : ∀ D k h' tk, s.heap.get? D = none → Ext s.heap h' → h'.get? D = some (listOf (vals (bestMeds b xs)).toArray k) → Q (.ref D) { s with heap := h', toks := tk }) :
    wpAny (model PR w) A (call (.ref 73) [.ref rl, .ref od]) Q E s := by
  refine' callC (binds := [("routes", .ref rl), ("options", .ref od)]) C ?k6 ?k7 (by omega) ?k9 ?kB ?c5 ?_ ?c2 ?c3 ?c4; (((case k6 => k_is); (case k7 => k_is); (case k9 => exact BindsTo.of_eq rfl); (case c5 => decide); (case kB => rfl); (case c2 => exact rfl); (case c3 => exact rfl); (case c4 => exact rfl)))
  intro L h₁ tk cells F Y
  obtain ⟨o, o', rfl, d, d'⟩ := CellsAre.two Y
  replace d : o.data = .cell none := d
  replace d' : o'.data = .cell (some (.ref od)) := d'
  clear Y
  obtain ⟨g, x₀, F, hc⟩ := (F.perm (List.Perm.swap _ _ _)).sink1
  have hoc : g.IsCell (L + 1) (some (.ref od)) := ⟨_, hc, d'⟩
  have C := C.keeps x₀
  have hl₁ := hL.at fun _ => x₀ _ _
  have hR := hR.mono x₀
  have O := O.mono x₀
  walk_at "mes"
  refine wpAny_For ?_
  walk_at "mes"
  rename_i T _ hT _ _ _ F₀
  have hT₀ : s.heap.get? T = none := by
    cases e : s.heap.get? T with
    | none => rfl
    | some o => have := F.keep _ _ (x₀ _ _ e); rw [show h₁.get? T = none from hT] at this; cases this
  refine iterList (A := A.deeper _) (xs := vals xs) hh F₀ hl₁ (fun i _ m' news' => m' "routes" = some (.ref rl) ∧ m' "found" = some (.ref T) ∧
    ∃ o k v₀, o.data = .cell v₀ ∧ news' = [(T, listOf (vals ((xs.take i).filter fun p => least ((if b then xs else xs.filter fun q => q.2.as == p.2.as).map fun q => q.2.med) == p.2.med)).toArray k), (L + 1 + 1, o)]) ⟨rfl, rfl, o, _, _, d, by simp; rfl⟩ ?_ ?_
  · rintro i hi v g₁ m₁ news₁ own h tk hv ⟨hm1, hm2, o, k, v₀, d, rfl⟩ x₁ F₂
    obtain ⟨p, hp, rfl⟩ : ∃ p, xs[i]? = some p ∧ v = .ref p.1 := by
      rw [List.getElem?_map] at hv
      cases e : xs[i]? with
      | none => rw [e] at hv; cases hv
      | some p => rw [e] at hv; exact ⟨p, rfl, by cases hv; rfl⟩
    replace C := C.keeps x₁
    replace hR := hR.mono x₁
    replace O := O.mono x₁
    replace hoc := hoc.keeps x₁
    replace hl₁ := hl₁.at fun _ => x₁ _ _
    obtain ⟨lo, hO⟩ := id O
    have R := hR p (List.mem_of_getElem? hp)
    have hi' : i < xs.length := by simpa using hi
    have hfl : ∀ f : Addr × Rt → Bool, (vals ((xs.take i).filter f)).length ≤ sizeLine := fun f => by
      have := List.length_filter_le f (xs.take i)
      simp only [List.length_take] at this
      simp only [List.length_map, sizeLine_eq]; omega
    have hgi : xs[i] = p := by simpa [hi'] using hp
    refine PySem.wpAny_assign_Name ?_
    refine stC F₂ rfl rfl rfl (.app (.tail .head) own) d fun h₂ oR dR F₂' => ?_
    refine hideQ fun R₀ hR₀ => ?_
    cases b with
    | false =>
      walk_at "mes"
      rename_i h₃ F₃'
      clear F₂ F₂'
      refine' asFilt (xs := xs) (fun q => q.2.as == p.2.as) ?hh ?F ?hL ?hke ?hsrc ?hdb ?hv ?hl ?hR ?hsz ?hy ?hsw ?hclos ?hcell ?hnames ?hx ?hk ?hdb' ?_ ?_; (case hsrc => rfl); (case hsw => rfl); (((case hh => assumption); (case F => with_reducible assumption); (case hL => rfl); (case hke => rfl); (case hy => rfl); (case hdb => decide); (case hv => first | rfl | assumption); (case hclos => with_unfolding_all rfl); (case hcell => decide); (case hnames => decide); (case hl => (first | exact Fm.list (by with_reducible assumption) (by with_reducible assumption) | exact Fm.listIn (by with_reducible assumption) (by ((repeat (first | exact List.Mem.head _ | refine List.Mem.tail _ ?_ | refine List.mem_append_right _ ?_)))))); (case hR => assumption); (case hsz => omega); (case hx => rfl); (case hk => rfl); (case hdb' => decide)))
      · rintro a r Ca g₂ m₂ h₂ tk₂ led hp₂ x₂ hn R₂ hm F₄
        have C₂ := C.keeps x₂
        have hrc : g₂.IsCell (L + 1 + 1) (some (.ref p.1)) := ⟨_, hn _ (List.mem_append_right _ (.tail _ (.head _))), dR⟩
        obtain ⟨n8, dd, pv, t, R₂⟩ := R₂
        obtain ⟨n8', dd', pv', t', R₃⟩ := R.mono x₂
        have h1 := R₂.tup
        have h2 := R₂.attrs
        have h3 := R₃.tup
        have h4 := R₃.attrs
        walk_at "mes"
        refine neighbour_as (F₄.cx C₂) (by show A.depth + 1 < _; omega) hh (R₂.path.mono F₄.keep) fun t h₅ tk₅ x₅ => ?_
        replace F₄ := F₄.ext x₅
        walk_at "mes"
        refine neighbour_as (F₄.cx C₂) (by show A.depth + 1 < _; omega) hh (R₃.path.mono F₄.keep) fun t h₅ tk₅ x₅ => ?_
        replace F₄ := F₄.ext x₅
        walk_at "mes"
        exact ⟨rfl, KeptX.same F₄⟩
      intro Dr h₂ tk₂ kr hnr xr Fr
      have hR' : AreR w g₁ (xs.filter fun q => q.2.as == p.2.as) := hR.sub fun p hp => (List.mem_filter.mp hp).1
      have hsz' := Nat.le_trans (List.length_filter_le (fun q => q.2.as == p.2.as) xs) hsz
      have hpy : p ∈ xs.filter fun q => q.2.as == p.2.as := List.mem_filter.mpr ⟨List.mem_of_getElem? hp, by simp⟩
      walk_at "mes"
      refine' evCosts (xs := (xs.filter fun q => q.2.as == p.2.as)) (fun r => r.med) ?hh ?F ?hL ?hke ?hy ?hdb ?hv ?hl ?hR ?hsz ?hclos ?hcell ?hnames ?hx ?hk ?_ ?_; (((case hh => assumption); (case F => with_reducible assumption); (case hL => rfl); (case hke => rfl); (case hy => rfl); (case hdb => decide); (case hv => first | rfl | assumption); (case hclos => with_unfolding_all rfl); (case hcell => decide); (case hnames => decide); (case hl => (first | exact Fm.list (by with_reducible assumption) (by with_reducible assumption) | exact Fm.listIn (by with_reducible assumption) (by ((repeat (first | exact List.Mem.head _ | refine List.Mem.tail _ ?_ | refine List.mem_append_right _ ?_)))))); (case hR => assumption); (case hsz => omega); (case hx => rfl); (case hk => rfl)))
      · rintro a r Ca g₂ m₂ h₂ tk₂ led hp₂ x₂ R₂ hm F₄
        have C₂ := C.keeps x₂
        have hoc := hoc.keeps x₂
        walk_at "mes"
        exact med_of (C₂.keeps F₄.keep) (by show A.depth + 1 < _; omega) (R₂.mono F₄.keep) ((O.mono x₂).mono F₄.keep) fun t h' tk' x' => ⟨t, rfl, Kept.same (F₄.ext x') trivial⟩
      intro D₁ h₃ tk₃ ys k₁ hn₁ hI x₃ F₃
      walk_at "mes"
      refine minFm (A := A.deeper _) hh F₃ (F₃.listIn (by k_mem)) hI (List.length_pos_of_mem (List.mem_map_of_mem hpy)) fun h₄ t₄ tk₄ F₄ => ?_
      clear F₃
      walk_at "mes"
      refine med_of (F₄.cx C) (by show A.depth + 1 < _; omega) (R.mono F₄.keep) (O.mono F₄.keep) fun t h₅ tk₅ x₅ => ?_
      replace F₄ := F₄.ext x₅
      walk_at "mes"
      cases e : (least (List.map (fun q => q.snd.med) (xs.filter fun q => q.2.as == p.2.as)) == p.2.med) with
      | false =>
        rw [if_neg Bool.false_ne_true]
        walk_at "mes"
        refine hR₀ _ _ ?_
        refine ⟨g₁, _, _, _, _, rfl, Ext.refl _, F₄.tail.tail, hm1, hm2, _, k, _, dR, ?_⟩
        rw [List.take_succ_eq_append_getElem hi', List.filter_append, hgi]
        simp [e]
      | true =>
        rw [if_pos rfl]
        walk_at "mes"
        refine' appendFm ?F ?U ?a ?_; (case F => assumption); (case U => (first | exact At.head | exact At.tail (At.head) | exact At.tail (At.tail (At.head)) | exact At.tail (At.tail (At.tail (At.head))) | exact At.tail (At.tail (At.tail (At.tail (At.head)))) | exact At.tail (At.tail (At.tail (At.tail (At.tail (At.head))))) | exact At.tail (At.tail (At.tail (At.tail (At.tail (At.tail (At.head)))))) | exact At.app (At.head) _ | exact At.app (At.tail (At.head)) _ | exact At.app (At.tail (At.tail (At.head))) _ | exact At.app (At.tail (At.tail (At.tail (At.head)))) _ | exact At.app (At.tail (At.tail (At.tail (At.tail (At.head))))) _ | exact At.tail (At.app (At.head) _) | exact At.tail (At.app (At.tail (At.head)) _) | exact At.tail (At.app (At.tail (At.tail (At.head))) _) | exact At.tail (At.app (At.tail (At.tail (At.tail (At.head)))) _) | exact At.tail (At.app (At.tail (At.tail (At.tail (At.tail (At.head))))) _) | exact At.tail (At.tail (At.app (At.head) _)) | exact At.tail (At.tail (At.app (At.tail (At.head)) _)) | exact At.tail (At.tail (At.app (At.tail (At.tail (At.head))) _)) | exact At.tail (At.tail (At.app (At.tail (At.tail (At.tail (At.head)))) _)) | exact At.tail (At.tail (At.app (At.tail (At.tail (At.tail (At.tail (At.head))))) _)) | exact At.tail (At.tail (At.tail (At.app (At.head) _))) | exact At.tail (At.tail (At.tail (At.app (At.tail (At.head)) _))) | exact At.tail (At.tail (At.tail (At.app (At.tail (At.tail (At.head))) _))) | exact At.tail (At.tail (At.tail (At.app (At.tail (At.tail (At.tail (At.head)))) _))) | exact At.tail (At.tail (At.tail (At.app (At.tail (At.tail (At.tail (At.tail (At.head))))) _))))); (case a => exact hfl _)
        intro h₆ k₆ F₆
        walk_at "mes"
        refine hR₀ _ _ ?_
        refine ⟨g₁, _, _, _, _, rfl, Ext.refl _, F₆.tail.tail, hm1, hm2, _, k₆, _, dR, ?_⟩
        rw [List.take_succ_eq_append_getElem hi', List.filter_append, hgi]
        simp [e, vals]
    | true =>
      walk_at "mes"
      rename_i h₃ F₃'
      clear F₂ F₂'
      have hpy : p ∈ xs := List.mem_of_getElem? hp
      refine' evCosts (xs := xs) (fun r => r.med) ?hh ?F ?hL ?hke ?hy ?hdb ?hv ?hl ?hR ?hsz ?hclos ?hcell ?hnames ?hx ?hk ?_ ?_; (((case hh => assumption); (case F => with_reducible assumption); (case hL => rfl); (case hke => rfl); (case hy => rfl); (case hdb => decide); (case hv => first | rfl | assumption); (case hclos => with_unfolding_all rfl); (case hcell => decide); (case hnames => decide); (case hl => (first | exact Fm.list (by with_reducible assumption) (by with_reducible assumption) | exact Fm.listIn (by with_reducible assumption) (by ((repeat (first | exact List.Mem.head _ | refine List.Mem.tail _ ?_ | refine List.mem_append_right _ ?_)))))); (case hR => assumption); (case hsz => omega); (case hx => rfl); (case hk => rfl)))
      · rintro a r Ca g₂ m₂ h₂ tk₂ led hp₂ x₂ R₂ hm F₄
        have C₂ := C.keeps x₂
        have hoc := hoc.keeps x₂
        walk_at "mes"
        exact med_of (C₂.keeps F₄.keep) (by show A.depth + 1 < _; omega) (R₂.mono F₄.keep) ((O.mono x₂).mono F₄.keep) fun t h' tk' x' => ⟨t, rfl, Kept.same (F₄.ext x') trivial⟩
      intro D₁ h₃ tk₃ ys k₁ hn₁ hI x₃ F₃
      walk_at "mes"
      refine minFm (A := A.deeper _) hh F₃ (F₃.listIn (by k_mem)) hI (List.length_pos_of_mem (List.mem_map_of_mem hpy)) fun h₄ t₄ tk₄ F₄ => ?_
      clear F₃
      walk_at "mes"
      refine med_of (F₄.cx C) (by show A.depth + 1 < _; omega) (R.mono F₄.keep) (O.mono F₄.keep) fun t h₅ tk₅ x₅ => ?_
      replace F₄ := F₄.ext x₅
      walk_at "mes"
      cases e : (least (List.map (fun q => q.snd.med) xs) == p.2.med) with
      | false =>
        rw [if_neg Bool.false_ne_true]
        walk_at "mes"
        refine hR₀ _ _ ?_
        refine ⟨g₁, _, _, _, _, rfl, Ext.refl _, F₄.tail, hm1, hm2, _, k, _, dR, ?_⟩
        rw [List.take_succ_eq_append_getElem hi', List.filter_append, hgi]
        simp [e]
      | true =>
        rw [if_pos rfl]
        walk_at "mes"
        refine' appendFm ?F ?U ?a ?_; (case F => assumption); (case U => (first | exact At.head | exact At.tail (At.head) | exact At.tail (At.tail (At.head)) | exact At.tail (At.tail (At.tail (At.head))) | exact At.tail (At.tail (At.tail (At.tail (At.head)))) | exact At.tail (At.tail (At.tail (At.tail (At.tail (At.head))))) | exact At.tail (At.tail (At.tail (At.tail (At.tail (At.tail (At.head)))))) | exact At.app (At.head) _ | exact At.app (At.tail (At.head)) _ | exact At.app (At.tail (At.tail (At.head))) _ | exact At.app (At.tail (At.tail (At.tail (At.head)))) _ | exact At.app (At.tail (At.tail (At.tail (At.tail (At.head))))) _ | exact At.tail (At.app (At.head) _) | exact At.tail (At.app (At.tail (At.head)) _) | exact At.tail (At.app (At.tail (At.tail (At.head))) _) | exact At.tail (At.app (At.tail (At.tail (At.tail (At.head)))) _) | exact At.tail (At.app (At.tail (At.tail (At.tail (At.tail (At.head))))) _) | exact At.tail (At.tail (At.app (At.head) _)) | exact At.tail (At.tail (At.app (At.tail (At.head)) _)) | exact At.tail (At.tail (At.app (At.tail (At.tail (At.head))) _)) | exact At.tail (At.tail (At.app (At.tail (At.tail (At.tail (At.head)))) _)) | exact At.tail (At.tail (At.app (At.tail (At.tail (At.tail (At.tail (At.head))))) _)) | exact At.tail (At.tail (At.tail (At.app (At.head) _))) | exact At.tail (At.tail (At.tail (At.app (At.tail (At.head)) _))) | exact At.tail (At.tail (At.tail (At.app (At.tail (At.tail (At.head))) _))) | exact At.tail (At.tail (At.tail (At.app (At.tail (At.tail (At.tail (At.head)))) _))) | exact At.tail (At.tail (At.tail (At.app (At.tail (At.tail (At.tail (At.tail (At.head))))) _))))); (case a => exact hfl _)
        intro h₆ k₆ F₆
        walk_at "mes"
        refine hR₀ _ _ ?_
        refine ⟨g₁, _, _, _, _, rfl, Ext.refl _, F₆.tail, hm1, hm2, _, k₆, _, dR, ?_⟩
        rw [List.take_succ_eq_append_getElem hi', List.filter_append, hgi]
        simp [e, vals]
  · rintro g₂ m₂ news₂ h tk ⟨hm1, hm2, o, k, v₀, d, rfl⟩ x₂ F₂
    have C₂ := C.keeps x₂
    walk_at "mes"
    have := F₂.get (.head _)
    rw [show (vals xs).length = xs.length by simp, List.take_length] at this
    exact hQ T _ _ _ hT₀ ((x₀.trans x₂).trans F₂.keep) this
end

theorem bestMeds_sub {b : Bool} {xs : List (Addr × Rt)} : ∀ p ∈ bestMeds b xs, p ∈ xs := fun _ hp => (List.mem_filter.mp hp).1
theorem bestMeds_len {b : Bool} {xs : List (Addr × Rt)} : (bestMeds b xs).length ≤ xs.length := List.length_filter_le _ _
theorem bestMeds_pos {b : Bool} {xs : List (Addr × Rt)} (h : 0 < xs.length) : 0 < (bestMeds b xs).length := by
  have := least_mem (ns := xs.map fun q => q.2.med) (by simpa using h)
  obtain ⟨q, hq, e⟩ := List.mem_map.mp this
  refine List.length_pos_of_mem (List.mem_filter.mpr ⟨hq, beq_iff_eq.mpr (Eq.symm ?_)⟩)
  have key : ∀ ys : List (Addr × Rt), q ∈ ys → (∀ p ∈ ys, p ∈ xs) → q.2.med = least (ys.map fun q => q.2.med) := fun ys hy hs =>
    least_eq (List.mem_map_of_mem hy) fun a ha => by
      obtain ⟨p, hp, rfl⟩ := List.mem_map.mp ha
      rw [e]
      exact least_le _ (List.mem_map_of_mem (hs p hp))
  cases b with
  | true => exact key xs hq fun _ h => h
  | false => exact key _ (List.mem_filter.mpr ⟨hq, by simp⟩) fun p hp => (List.mem_filter.mp hp).1
def bestList (b : Bool) (xs : List (Addr × Rt)) : List (Addr × Rt) := leastBy (fun r => 20 - r.num) (leastBy (fun r => r.num) (leastBy (fun r => r.cost) (bestMeds b xs)))
section
variable {w : World} {A : Around} {s : Shared} {E : Value → Shared → Prop} {Q : Value → Shared → Prop}
theorem ladder {xs : List (Addr × Rt)} {rl pd od : Addr} {b : Bool} (C : Cx w s.heap) (hdp : A.depth + 2 < recursionLimit) (hh : A.handled = none)
    (hL : s.heap.IsList rl (vals xs).toArray) (hR : AreR w s.heap xs) (hP : ∀ p ∈ xs, HasPeer w s.heap pd p.2.num) (hO : IsOpts w s.heap od b) (hne : 0 < xs.length) (hsz : xs.length ≤ 1000)
    (hQ : ∀ D l h' tk, Ext s.heap h' → EndsIn 10 h' D l → h'.IsList l (vals (bestList b xs)).toArray → Q (.ref D) { s with heap := h', toks := tk }) :
    wpAny (model PR w) A (call (.ref 83) [.ref rl, .ref pd, .ref od]) Q E s := by
  unfold bestList at hQ
  refine' callC (binds := [("routes", .ref rl), ("peers", .ref pd), ("options", .ref od)]) C ?k6 ?k7 (by omega) ?k9 ?kB ?c5 ?_ ?c2 ?c3 ?c4; (((case k6 => k_is); (case k7 => k_is); (case k9 => exact BindsTo.of_eq rfl); (case c5 => decide); (case kB => rfl); (case c2 => exact rfl); (case c3 => exact rfl); (case c4 => exact rfl)))
  intro L h₁ tk cells F Y
  obtain ⟨o, rfl, d⟩ := CellsAre.one Y
  replace d : o.data = .cell (some (.ref pd)) := d
  clear Y
  replace ⟨g, x₀, F, hc⟩ := F.sink1
  have B : Bs w g pd od (L + 1) b xs := ⟨C.keeps x₀, hR.mono x₀, fun p hp => (hP p hp).mono x₀, hO.mono x₀, ⟨_, hc, d⟩, hne, hsz⟩
  have hl₁ := hL.at fun _ => x₀ _ _
  clear hc d hne hsz hR hP hO hL C
  have C := B.C
  refine wpAny_execs_cons ?_
  refine wpAny_Assign_Name ?_
  refine Call_ ?_
  (((with_reducible show wpAny _ _ (eval (Expr.Name _ _) _) _ _ _); first | (refine' nmL ?F ?a ?b ?c ?d ?e ?_; (case F => with_reducible assumption); (case a => rfl); (case b => rfl); (case c => rfl); (case d => decide); (case e => first | rfl | assumption)) | (refine' nmC ?F ?b ?c ?d ?e ?f ?g ?_; (case F => with_reducible assumption); (case b => rfl); (case c => rfl); (case d => decide); (case e => rfl); (case f => ((repeat (first | exact List.Mem.head _ | refine List.Mem.tail _ ?_ | refine List.mem_append_right _ ?_)))); (case g => assumption)) | (refine' nmCB ?F ?b ?c ?d ?e ?f ?_; (case F => with_reducible assumption); (case b => rfl); (case c => rfl); (case d => decide); (case e => rfl); (case f => with_reducible assumption)) | (refine' nmK ?C ?b ?c ?d ?e ?f ?_; (case C => exact Fm.cx (by with_reducible assumption) (by with_reducible assumption)); (case b => rfl); (case c => rfl); (case d => rfl); (case e => decide); (case f => k_is)) | (refine' nmB ?C ?b ?c ?c2 ?d ?e ?f ?f2 ?f3 ?_; (case C => exact Fm.cx (by with_reducible assumption) (by with_reducible assumption)); (case b => rfl); (case c => rfl); (case c2 => rfl); (case d => rfl); (case e => decide); (case f => k_is); (case f2 => boot_fast); (case f3 => decide))))
  refine callWith_K (first := []) C.k (by k_is) ?_
  refine spliced_more ?_
  (((with_reducible show wpAny _ _ (eval (Expr.Name _ _) _) _ _ _); first | (refine' nmL ?F ?a ?b ?c ?d ?e ?_; (case F => with_reducible assumption); (case a => rfl); (case b => rfl); (case c => rfl); (case d => decide); (case e => first | rfl | assumption)) | (refine' nmC ?F ?b ?c ?d ?e ?f ?g ?_; (case F => with_reducible assumption); (case b => rfl); (case c => rfl); (case d => decide); (case e => rfl); (case f => ((repeat (first | exact List.Mem.head _ | refine List.Mem.tail _ ?_ | refine List.mem_append_right _ ?_)))); (case g => assumption)) | (refine' nmCB ?F ?b ?c ?d ?e ?f ?_; (case F => with_reducible assumption); (case b => rfl); (case c => rfl); (case d => decide); (case e => rfl); (case f => with_reducible assumption)) | (refine' nmK ?C ?b ?c ?d ?e ?f ?_; (case C => exact Fm.cx (by with_reducible assumption) (by with_reducible assumption)); (case b => rfl); (case c => rfl); (case d => rfl); (case e => decide); (case f => k_is)) | (refine' nmB ?C ?b ?c ?c2 ?d ?e ?f ?f2 ?f3 ?_; (case C => exact Fm.cx (by with_reducible assumption) (by with_reducible assumption)); (case b => rfl); (case c => rfl); (case c2 => rfl); (case d => rfl); (case e => decide); (case f => k_is); (case f2 => boot_fast); (case f3 => decide))))
  refine spliced_nil ?_
  refine And.intro (F.cx C).k ?_
  refine usable (F.cx C) (by show A.depth + 1 < _; omega) hh (F.list hl₁) (B.R.mono F.keep) B.sz fun D k h₃ tk₃ hn x₂ hD => ?_
  replace ⟨g₂, x₃, F, hg⟩ := F.into x₂ hn hD
  replace B := B.mono x₃
  replace hl₁ : g₂.IsList D _ := ⟨_, hg, rfl, _, rfl⟩
  replace x₀ := x₀.trans x₃
  clear hg hD hn x₂ x₃ C
  refine stL F rfl rfl rfl fun h₄ F₂ => ?_
  clear F
  have F : Fm g₂ L h₄ (setM _ "left" (.ref D)) [] := F₂
  clear F₂
  dsimp only
  refine wpAny_execs_cons ?_
  refine rungNew F rfl rfl rfl rfl setM_self rfl fun R T h₂ tk₂ k' F₂ => ?_
  clear F
  have F := F₂.names (m' := setM (setM _ "rungs" (.ref R)) "left" (.ref D)) (setM_swap (by decide))
  clear F₂
  dsimp only
  refine wpAny_execs_cons ?_
  refine wpAny_If ?_
  have C := B.C
  walk_at "mes"
  refine call_len_list (items := (vals xs).toArray) (F.list hl₁) (by rw [List.size_toArray, List.length_map]; have := B.sz; omega) ?_
  walk_at "mes"
  rw [if_neg (by rw [List.size_toArray, List.length_map]; have := B.ne; simp only [beq_iff_eq]; omega)]
  refine wpAny_execs_nil ?_
  clear C
  dsimp only
  refine wpAny_execs_cons ?_
  refine' rung (fun _ => 0 - 100) hh (by show A.depth + 1 < _; omega) B.C F rfl rfl rfl rfl rfl setM_self hl₁ B.R B.ne B.sz ?hclos ?hcell ?hnames ?hx ?hk ?_ ?_
  case hclos => with_unfolding_all rfl
  case hcell => decide
  case hnames => decide
  case hx => rfl
  case hk => rfl
  · rintro a r Ca g₁ m₁ h tk led hp x R hm F₄
    have C₁ := B.C.keeps x
    have hpc := B.c.keeps x
    walk_at "mes"
    refine preference_of (B.C.keeps (x.trans F₄.keep)) (by show A.depth + 1 < _; omega) (R.mono F₄.keep) fun t h' tk' x' => ?_
    replace F₄ := F₄.ext x'
    walk_at "mes"
    exact ⟨_, rfl, Kept.same F₄ trivial⟩
  clear hl₁ F
  intro g₂ D h₂ tk₂ x₂ hl₁ F
  rw [leastBy_const] at hl₁
  replace B := B.mono x₂
  replace x₀ := x₀.trans x₂
  rw [setM_setM] at F
  clear x₂
  dsimp only
  refine wpAny_execs_cons ?_
  refine rungApp F rfl rfl rfl rfl rfl setM_self rfl (by simp) rfl rfl fun g₂ T u h₂ tk₂ k' x₂ hT F₂ => ?_
  clear F
  have F := F₂
  clear F₂
  replace B := B.mono x₂
  replace x₀ := x₀.trans x₂
  replace hl₁ := hl₁.at fun _ => x₂ _ _
  dsimp only
  refine wpAny_execs_cons ?_
  refine' rung (fun _ => 1) hh (by show A.depth + 1 < _; omega) B.C F rfl rfl rfl rfl rfl setM_self hl₁ B.R B.ne B.sz ?hclos ?hcell ?hnames ?hx ?hk ?_ ?_
  case hclos => with_unfolding_all rfl
  case hcell => decide
  case hnames => decide
  case hx => rfl
  case hk => rfl
  · rintro a r Ca g₁ m₁ h tk led hp x R hm F₄
    have C₁ := B.C.keeps x
    have hpc := B.c.keeps x
    obtain ⟨n8, d, pv, t, R⟩ := R
    have h1 := R.tup
    have h2 := R.attrs
    have h3 := R.lo
    walk_at "mes"
    exact ⟨_, rfl, Kept.same F₄ trivial⟩
  clear hl₁ F
  intro g₂ D h₂ tk₂ x₂ hl₁ F
  rw [leastBy_const] at hl₁
  replace B := B.mono x₂
  replace x₀ := x₀.trans x₂
  rw [setM_setM] at F
  clear x₂
  dsimp only
  refine wpAny_execs_cons ?_
  refine rungApp F rfl rfl rfl rfl rfl setM_self rfl (by simp) rfl rfl fun g₂ T u h₂ tk₂ k' x₂ hT F₂ => ?_
  clear F
  have F := F₂
  clear F₂
  replace B := B.mono x₂
  replace x₀ := x₀.trans x₂
  replace hl₁ := hl₁.at fun _ => x₂ _ _
  dsimp only
  refine wpAny_execs_cons ?_
  refine' rung (fun _ => 1) hh (by show A.depth + 1 < _; omega) B.C F rfl rfl rfl rfl rfl setM_self hl₁ B.R B.ne B.sz ?hclos ?hcell ?hnames ?hx ?hk ?_ ?_
  case hclos => with_unfolding_all rfl
  case hcell => decide
  case hnames => decide
  case hx => rfl
  case hk => rfl
  · rintro a r Ca g₁ m₁ h tk led hp x R hm F₄
    have C₁ := B.C.keeps x
    have hpc := B.c.keeps x
    obtain ⟨n8, d, pv, t, R⟩ := R
    have h1 := R.tup
    have h2 := R.attrs
    have h3 := R.lo
    walk_at "mes"
    exact path_length (B.C.keeps (x.trans F₄.keep)) (by show A.depth + 1 < _; omega) hh (R.path.mono F₄.keep) fun t h' tk' x' => ⟨_, rfl, Kept.same (F₄.ext x') trivial⟩
  clear hl₁ F
  intro g₂ D h₂ tk₂ x₂ hl₁ F
  rw [leastBy_const] at hl₁
  replace B := B.mono x₂
  replace x₀ := x₀.trans x₂
  rw [setM_setM] at F
  clear x₂
  dsimp only
  refine wpAny_execs_cons ?_
  refine rungApp F rfl rfl rfl rfl rfl setM_self rfl (by simp) rfl rfl fun g₂ T u h₂ tk₂ k' x₂ hT F₂ => ?_
  clear F
  have F := F₂
  clear F₂
  replace B := B.mono x₂
  replace x₀ := x₀.trans x₂
  replace hl₁ := hl₁.at fun _ => x₂ _ _
  dsimp only
  refine wpAny_execs_cons ?_
  refine' rung (fun _ => 0) hh (by show A.depth + 1 < _; omega) B.C F rfl rfl rfl rfl rfl setM_self hl₁ B.R B.ne B.sz ?hclos ?hcell ?hnames ?hx ?hk ?_ ?_
  case hclos => with_unfolding_all rfl
  case hcell => decide
  case hnames => decide
  case hx => rfl
  case hk => rfl
  · rintro a r Ca g₁ m₁ h tk led hp x R hm F₄
    have C₁ := B.C.keeps x
    have hpc := B.c.keeps x
    obtain ⟨n8, d, pv, t, R⟩ := R
    have h1 := R.tup
    have h2 := R.attrs
    have h3 := R.lo
    walk_at "mes"
    exact ⟨_, rfl, Kept.same F₄ trivial⟩
  clear hl₁ F
  intro g₂ D h₂ tk₂ x₂ hl₁ F
  rw [leastBy_const] at hl₁
  replace B := B.mono x₂
  replace x₀ := x₀.trans x₂
  rw [setM_setM] at F
  clear x₂
  dsimp only
  refine wpAny_execs_cons ?_
  refine rungApp F rfl rfl rfl rfl rfl setM_self rfl (by simp) rfl rfl fun g₂ T u h₂ tk₂ k' x₂ hT F₂ => ?_
  clear F
  have F := F₂
  clear F₂
  replace B := B.mono x₂
  replace x₀ := x₀.trans x₂
  replace hl₁ := hl₁.at fun _ => x₂ _ _
  dsimp only
  have C := B.C
  refine wpAny_execs_cons ?_
  refine wpAny_Assign_Name ?_
  refine Call_ ?_
  (((with_reducible show wpAny _ _ (eval (Expr.Name _ _) _) _ _ _); first | (refine' nmL ?F ?a ?b ?c ?d ?e ?_; (case F => with_reducible assumption); (case a => rfl); (case b => rfl); (case c => rfl); (case d => decide); (case e => first | rfl | assumption)) | (refine' nmC ?F ?b ?c ?d ?e ?f ?g ?_; (case F => with_reducible assumption); (case b => rfl); (case c => rfl); (case d => decide); (case e => rfl); (case f => ((repeat (first | exact List.Mem.head _ | refine List.Mem.tail _ ?_ | refine List.mem_append_right _ ?_)))); (case g => assumption)) | (refine' nmCB ?F ?b ?c ?d ?e ?f ?_; (case F => with_reducible assumption); (case b => rfl); (case c => rfl); (case d => decide); (case e => rfl); (case f => with_reducible assumption)) | (refine' nmK ?C ?b ?c ?d ?e ?f ?_; (case C => exact Fm.cx (by with_reducible assumption) (by with_reducible assumption)); (case b => rfl); (case c => rfl); (case d => rfl); (case e => decide); (case f => k_is)) | (refine' nmB ?C ?b ?c ?c2 ?d ?e ?f ?f2 ?f3 ?_; (case C => exact Fm.cx (by with_reducible assumption) (by with_reducible assumption)); (case b => rfl); (case c => rfl); (case c2 => rfl); (case d => rfl); (case e => decide); (case f => k_is); (case f2 => boot_fast); (case f3 => decide))))
  refine callWith_K (first := []) C.k (by k_is) ?_
  refine spliced_more ?_
  refine nmL F rfl rfl rfl (by decide) setM_self ?_
  refine spliced_more ?_
  refine nmL F rfl rfl rfl (by decide) rfl ?_
  refine spliced_nil ?_
  refine And.intro (F.cx C).k ?_
  refine best_meds (F.cx C) (by show A.depth + 1 + 1 < _; omega) hh (F.list hl₁) (B.R.mono F.keep) (B.O.mono F.keep) B.sz fun D k h₃ tk₃ hn x₂ hD => ?_
  replace ⟨g₂, x₃, F, hg⟩ := F.into x₂ hn hD
  replace B := (B.mono x₃).sub (bestMeds_sub (b := b)) (bestMeds_pos (b := b) B.ne) bestMeds_len
  replace hl₁ : g₂.IsList D _ := ⟨_, hg, rfl, _, rfl⟩
  replace x₀ := x₀.trans x₃
  generalize bestMeds b xs = xs at *
  clear hg hD hn x₂ x₃ C
  refine stL F rfl rfl rfl fun h₄ F₂ => ?_
  clear F
  have F := F₂.names (m' := setM _ "left" (.ref D)) setM_setM
  clear F₂
  dsimp only
  refine wpAny_execs_cons ?_
  refine rungApp F rfl rfl rfl rfl rfl setM_self rfl (by simp) rfl rfl fun g₂ T u h₂ tk₂ k' x₂ hT F₂ => ?_
  clear F
  have F := F₂
  clear F₂
  replace B := B.mono x₂
  replace x₀ := x₀.trans x₂
  replace hl₁ := hl₁.at fun _ => x₂ _ _
  dsimp only
  refine wpAny_execs_cons ?_
  refine' rung (fun _ => 0) hh (by show A.depth + 1 < _; omega) B.C F rfl rfl rfl rfl rfl setM_self hl₁ B.R B.ne B.sz ?hclos ?hcell ?hnames ?hx ?hk ?_ ?_
  case hclos => with_unfolding_all rfl
  case hcell => decide
  case hnames => decide
  case hx => rfl
  case hk => rfl
  · rintro a r Ca g₁ m₁ h tk led hp x R hm F₄
    have C₁ := B.C.keeps x
    have hpc := B.c.keeps x
    walk_at "mes"
    refine is_from_outside (B.C.keeps (x.trans F₄.keep)) (by show A.depth + 1 < _; omega) (R.mono F₄.keep) ((B.P _ hp).mono (x.trans F₄.keep)) fun h' tk' x' => ?_
    replace F₄ := F₄.ext x'
    walk_at "mes"
    exact ⟨_, rfl, Kept.same F₄ trivial⟩
  clear hl₁ F
  intro g₂ D h₂ tk₂ x₂ hl₁ F
  rw [leastBy_const] at hl₁
  replace B := B.mono x₂
  replace x₀ := x₀.trans x₂
  rw [setM_setM] at F
  clear x₂
  dsimp only
  refine wpAny_execs_cons ?_
  refine rungApp F rfl rfl rfl rfl rfl setM_self rfl (by simp) rfl rfl fun g₂ T u h₂ tk₂ k' x₂ hT F₂ => ?_
  clear F
  have F := F₂
  clear F₂
  replace B := B.mono x₂
  replace x₀ := x₀.trans x₂
  replace hl₁ := hl₁.at fun _ => x₂ _ _
  dsimp only
  refine wpAny_execs_cons ?_
  refine' rung (fun r => r.cost) hh (by show A.depth + 1 < _; omega) B.C F rfl rfl rfl rfl rfl setM_self hl₁ B.R B.ne B.sz ?hclos ?hcell ?hnames ?hx ?hk ?_ ?_
  case hclos => with_unfolding_all rfl
  case hcell => decide
  case hnames => decide
  case hx => rfl
  case hk => rfl
  · rintro a r Ca g₁ m₁ h tk led hp x R hm F₄
    have C₁ := B.C.keeps x
    have hpc := B.c.keeps x
    obtain ⟨n8, d, pv, t, R⟩ := R
    have h1 := R.tup
    have h2 := R.attrs
    have h3 := R.lo
    walk_at "mes"
    exact ⟨_, rfl, Kept.same F₄ trivial⟩
  clear hl₁ F
  intro g₂ D h₂ tk₂ x₂ hl₁ F
  replace B := (B.mono x₂).sub (leastBy_sub (f := (fun r => r.cost))) (leastBy_pos (f := (fun r => r.cost)) B.ne) leastBy_len
  generalize leastBy (fun r => r.cost) xs = xs at *
  replace x₀ := x₀.trans x₂
  rw [setM_setM] at F
  clear x₂
  dsimp only
  refine wpAny_execs_cons ?_
  refine rungApp F rfl rfl rfl rfl rfl setM_self rfl (by simp) rfl rfl fun g₂ T u h₂ tk₂ k' x₂ hT F₂ => ?_
  clear F
  have F := F₂
  clear F₂
  replace B := B.mono x₂
  replace x₀ := x₀.trans x₂
  replace hl₁ := hl₁.at fun _ => x₂ _ _
  dsimp only
  have C := B.C
  refine wpAny_execs_cons ?_
  refine wpAny_Return_some ?_
  refine wpAny_BinOp ?_
  refine nmL F rfl rfl rfl (by decide) rfl ?_
  refine Call_ ?_
  (((with_reducible show wpAny _ _ (eval (Expr.Name _ _) _) _ _ _); first | (refine' nmL ?F ?a ?b ?c ?d ?e ?_; (case F => with_reducible assumption); (case a => rfl); (case b => rfl); (case c => rfl); (case d => decide); (case e => first | rfl | assumption)) | (refine' nmC ?F ?b ?c ?d ?e ?f ?g ?_; (case F => with_reducible assumption); (case b => rfl); (case c => rfl); (case d => decide); (case e => rfl); (case f => ((repeat (first | exact List.Mem.head _ | refine List.Mem.tail _ ?_ | refine List.mem_append_right _ ?_)))); (case g => assumption)) | (refine' nmCB ?F ?b ?c ?d ?e ?f ?_; (case F => with_reducible assumption); (case b => rfl); (case c => rfl); (case d => decide); (case e => rfl); (case f => with_reducible assumption)) | (refine' nmK ?C ?b ?c ?d ?e ?f ?_; (case C => exact Fm.cx (by with_reducible assumption) (by with_reducible assumption)); (case b => rfl); (case c => rfl); (case d => rfl); (case e => decide); (case f => k_is)) | (refine' nmB ?C ?b ?c ?c2 ?d ?e ?f ?f2 ?f3 ?_; (case C => exact Fm.cx (by with_reducible assumption) (by with_reducible assumption)); (case b => rfl); (case c => rfl); (case c2 => rfl); (case d => rfl); (case e => decide); (case f => k_is); (case f2 => boot_fast); (case f3 => decide))))
  refine callWith_K (first := []) C.k (by k_is) ?_
  refine spliced_more ?_
  refine nmL F rfl rfl rfl (by decide) setM_self ?_
  refine spliced_more ?_
  refine nmCB F rfl rfl (by decide) rfl B.c ?_
  refine spliced_nil ?_
  refine And.intro (F.cx C).k ?_
  refine last_rungs (xs := xs) (F.cx C) (by show A.depth + 1 + 1 < _; omega) hh (F.list hl₁) (B.R.mono F.keep) (fun p hp => (B.P p hp).mono F.keep) (B.O.mono F.keep) B.ne B.sz fun D l h₃ tk₃ x₂ hE hlst => ?_
  replace F := F.ext x₂
  obtain ⟨vs, T, xv, hD, hv, hT⟩ := hE
  refine addFm F (F.listIn (.head _)) hD (by simp [sizeLine_eq]; omega) fun T' h' hn x₃ F₅ => ?_
  dsimp only
  refine hQ T' l _ _ (x₀.trans F₅.keep) ?_ (hlst.at fun _ => x₃ _ _)
  rw [← List.append_assoc] at F₅
  exact ⟨_, T, xv, F₅.listIn (.head _), by simp; omega, hT.keeps x₃⟩
end

section
variable {w : World} {A : Around} {s : Shared} {E : Value → Shared → Prop} {Q : Value → Shared → Prop}
theorem best_of {xs : List (Addr × Rt)} {rl pd od : Addr} {b : Bool} (C : Cx w s.heap) (hdp : A.depth + 3 < recursionLimit) (hh : A.handled = none)
    (hL : s.heap.IsList rl (vals xs).toArray) (hR : AreR w s.heap xs) (hP : ∀ p ∈ xs, HasPeer w s.heap pd p.2.num) (hO : IsOpts w s.heap od b) (hne : 0 < xs.length) (hsz : xs.length ≤ 1000)
    (hQ : ∀ p rest h' tk, bestList b xs = p :: rest → Ext s.heap h' → Q (.ref p.1) { s with heap := h', toks := tk }) :
    wpAny (model PR w) A (call (.ref 95) [.ref rl, .ref pd, .ref od]) Q E s := by
  refine' callP (binds := [("routes", .ref rl), ("peers", .ref pd), ("options", .ref od)]) C ?k6 ?k7 (by omega) ?k9 ?kB ?c5 ?_ ?c2 ?c3 ?c4; (((case k6 => k_is); (case k7 => k_is); (case k9 => exact BindsTo.of_eq rfl); (case c5 => decide); (case kB => exact locs rfl); (case c2 => exact rfl); (case c3 => exact rfl); (case c4 => exact rfl)))
  intro L h₁ tk F
  have hpos : 0 < (bestList b xs).length := leastBy_pos (leastBy_pos (leastBy_pos (bestMeds_pos hne)))
  have hlen : (bestList b xs).length ≤ 1000 := Nat.le_trans leastBy_len (Nat.le_trans leastBy_len (Nat.le_trans leastBy_len (Nat.le_trans bestMeds_len hsz)))
  walk_at "mes"
  refine ladder (xs := xs) (F.cx C) (by show A.depth + 1 + 2 < _; omega) hh (F.list hL) (hR.mono F.keep) (fun p hp => (hP p hp).mono F.keep) (hO.mono F.keep) hne hsz fun D l h₂ tk₂ x₂ hE hl => ?_
  replace F := F.ext x₂
  obtain ⟨vs, T, xv, hD, hv, hT⟩ := hE
  replace ⟨g, x₃, F, hg⟩ := F.rebase
  have hlL : l ≠ L := by
    obtain ⟨oL, k1, k2, e1, e2⟩ := F.ns
    obtain ⟨o, e3, e4, k, e5⟩ := hl
    intro e
    rw [e, e1] at e3
    cases e3
    simp_all
  have hl₁ : g.IsList l _ := hl.at fun o e => hg l o e hlL (by simp)
  have C₁ := C.keeps x₃
  walk_at "mes"
  refine litemNeg hD (by decide) (by simp; omega) (by decide) (x := .ref T) (by rw [show (-1 + ((vs ++ [Value.ref T]).length : Int)).toNat = vs.length by simp; omega]; simp) ?_
  walk_at "mes"
  refine item_tupleT hT (by decide) (by decide) rfl rfl ?_
  walk_at "mes"
  refine call_len_list (items := (vals (bestList b xs)).toArray) (by (first | exact Fm.list (by with_reducible assumption) (by with_reducible assumption) | exact Fm.listIn (by with_reducible assumption) (by ((repeat (first | exact List.Mem.head _ | refine List.Mem.tail _ ?_ | refine List.mem_append_right _ ?_)))))) (by rw [List.size_toArray, List.length_map]; omega) ?_
  walk_at "mes"
  rw [if_pos (by simp; omega)]
  obtain ⟨p, rest, hp⟩ : ∃ p rest, bestList b xs = p :: rest := by
    cases e : bestList b xs with
    | nil => rw [e] at hpos; exact absurd hpos (by simp)
    | cons p r => exact ⟨p, r, rfl⟩
  walk_at "mes"
  refine litem (x := .ref p.1) (by (first | exact Fm.list (by with_reducible assumption) (by with_reducible assumption) | exact Fm.listIn (by with_reducible assumption) (by ((repeat (first | exact List.Mem.head _ | refine List.Mem.tail _ ?_ | refine List.mem_append_right _ ?_)))))) (by decide) (by decide) (by rw [hp]; rfl) ?_
  rename_i F₉
  exact hQ p rest _ _ hp (x₃.trans F₉.keep)
end

section
variable {prog : Program} {w : World} {A : Around} {s : Shared} {E : Value → Shared → Prop} {g : Heap} {L : Addr} {m : Str → Option Value} {news : List (Addr × Obj)} {Q : Value → Shared → Prop} {env : Env}
theorem freshNone (h : Heap) : h.get? h.objs.size = none := by
  cases e : h.get? h.objs.size with
  | none => rfl
  | some o => exact absurd (Heap.lt_size e) (Nat.lt_irrefl _)
/-- a display of a dict -/
theorem dictFm {K : Type} [DecidableEq K] {knd : KeyKind prog w K} {keys : List (Option Expr)} {values : List Expr} {pos : Pos} (hlim : s.heap.NoLimit) (F : Fm g L s.heap m news)
    (hall : keys.all (·.isSome) = true) (hl : keys.length = values.length) (h0 : keys ≠ []) (hlen : keys.length ≤ 15)
    (h : ∀ d h₁, s.heap.get? d = none → (d == sysModules) = false → Ext s.heap h₁ → Fm g L h₁ m ((d, { cls := .type "dict", data := .dict #[] }) :: news) →
      wpAny (model prog w) A (evalPairs (pairTrees keys values env pos)) (fun vs s₁ => ∃ kvs news' u, Carries knd vs kvs ∧ Fm g L s₁.heap m news' ∧ At d { cls := .type "dict", data := .dict #[] } news' u ∧
        ∀ h' o tk, o.IsDictOf knd (merged [] kvs) → Fm g L h' m (u o) → Q (.ref d) { s₁ with heap := h', toks := tk }) E { s with heap := h₁ }) :
    wpAny (model prog w) A (eval (.Dict keys values pos) env) Q E s := by
  refine wpAny_Dict_walk (knd := knd) hall hl h0 hlen ?_
  have hlow := modules_low hlim
  refine wpAny_mono (h _ _ (freshNone _) (beq_eq_false_iff_ne.mpr (Nat.ne_of_gt hlow)) (Ext.push _ _) (F.push _)) (fun vs s₁ h₁ => ?_) fun _ _ e => e
  obtain ⟨kvs, news', u, hc, F₁, U, hQ⟩ := h₁
  refine ⟨kvs, hc, Heap.dictOf_iff.mpr ⟨_, F₁.get U.mem, by exact ⟨#[], _, ⟨rfl, rfl, rfl⟩, rfl, (fun e he => absurd he (by simp)), .nil, List.nodup_nil⟩⟩, fun h' hD hs => ?_⟩
  obtain ⟨o, ho, hd⟩ := Heap.dictOf_iff.mp hD
  exact hQ h' o _ hd (F₁.upd U hs ho)
/-- an empty dict -/
theorem dict0Fm {pos : Pos} (hlim : s.heap.NoLimit) (F : Fm g L s.heap m news)
    (h : ∀ d h₁, s.heap.get? d = none → (d == sysModules) = false → Ext s.heap h₁ → Fm g L h₁ m ((d, { cls := .type "dict", data := .dict #[] }) :: news) → Q (.ref d) { s with heap := h₁ }) :
    wpAny (model prog w) A (eval (.Dict [] [] pos) env) Q E s :=
  wpAny_Dict_empty (h _ _ (freshNone _) (beq_eq_false_iff_ne.mpr (Nat.ne_of_gt (modules_low hlim))) (Ext.push _ _) (F.push _))
theorem emptyDict {K : Type} [DecidableEq K] {knd : KeyKind prog w K} : ({ cls := .type "dict", data := .dict #[] } : Obj).IsDictOf knd [] := ⟨#[], _, ⟨rfl, rfl, rfl⟩, rfl, (fun e he => absurd he (by simp)), .nil, List.nodup_nil⟩
/-- a pair put into a dict of the ledger -/
theorem setFm {K : Type} [DecidableEq K] {knd : KeyKind prog w K} {d : Addr} {o : Obj} {u : Obj → List (Addr × Obj)} {kvs : List (K × Value)} {k : K} {key v : Value} {Q : Unit → Shared → Prop} (hkey : knd.is k key = true) (F : Fm g L s.heap m news) (U : At d o news u) (hd : o.IsDictOf knd kvs) (hsz : kvs.length ≤ sizeLine)
    (h : ∀ h' o', o'.IsDictOf knd (stored kvs k v) → Fm g L h' m (u o') → Q () { s with heap := h', toks := s.toks + 1 }) : wpAny (model prog w) A (setItem (.ref d) key v) Q E s := by
  refine wpAny_setItem_pairs (hsz := hsz) hkey (Heap.dictOf_iff.mpr ⟨o, F.get U.mem, hd⟩) fun h' hD hs => ?_
  obtain ⟨o', ho', hd'⟩ := Heap.dictOf_iff.mp hD
  exact h h' o' hd' (F.upd U hs ho')
/-- a list's first items -/
theorem sliceFm {value slice : Expr} {l : Addr} {xs : List Value} {y : Int} {t : Tok} (F : Fm g L s.heap m news) (hl : s.heap.IsList l xs.toArray) (hsz : xs.length ≤ sizeLine)
    (h : ∀ D h', s.heap.get? D = none → Ext s.heap h' → Fm g L h' m ((D, listOf (slicePick xs.toArray none (some y) none) 0) :: news) → Q (.ref D) { s with heap := h' })
    (hs : subscripted slice false (.ref l) (.ref s.heap.objs.size) = operate [.ref s.heap.objs.size, .ref l] (getItem (.ref l) (.ref s.heap.objs.size)) := by with_unfolding_all rfl)
    (ht : ∀ r, letTemporaryGo value (.ref l) r = pure () := by intro _; with_unfolding_all rfl) :
    wpAny (model prog w) A (subscriptTail value slice (.ref l) (.ref s.heap.objs.size)) Q E { s with heap := s.heap.push { cls := .type "slice", data := .fields #[.none, .int y t, .none] } } := by
  refine subscriptTail_ops (Heap.IsList.typeIs (s := { s with heap := s.heap.push { cls := .type "slice", data := .fields #[.none, .int y t, .none] } }) (hl.push _)) list_getitem_lookup
    (wpAny_getItem_list_slice (hl.push _) (Heap.IsSliceOf.new ..) .none (.int y t) .none (by simp) ?_ (by simpa using hsz)) hs ht
  have F1 := F.push { cls := .type "slice", data := .fields #[.none, .int y t, .none] }
  have F2 := (F1.tail).push { cls := .type "list", data := .seq (slicePick xs.toArray none (some y) none) }
  refine h _ _ ?_ ((Ext.push _ _).trans (Ext.push _ _)) F2
  cases e : s.heap.get? (s.heap.push { cls := .type "slice", data := .fields #[.none, .int y t, .none] }).objs.size with
  | none => rfl
  | some o => have := Heap.lt_size e; rw [Heap.size_push] at this; exact absurd (Nat.lt_of_succ_lt this) (Nat.lt_irrefl _)
end
section
variable {prog : Program} {w : World} {A : Around} {s : Shared} {E : Value → Shared → Prop} {g : Heap} {L : Addr} {m : Str → Option Value} {news : List (Addr × Obj)}
theorem unpackFm {t : Addr} {items : Array Value} {n : Nat} {Q : List Value → Shared → Prop} (F : Fm g L s.heap m news) (ht : IsTup s.heap t items) (hh : A.handled = none) (hn : n = items.size)
    (h : ∀ h', Fm g L h' m news → Ext s.heap h' → Q items.toList { s with heap := h' }) : wpAny (model prog w) A (unpackItems (.ref t) n none) Q E s := by
  subst hn
  refine unpackItems_tuple hh ht fun h' he => ?_
  have k : Ext s.heap h' := fun c o e => he c o (Nat.ne_of_lt (Heap.lt_size e)) e
  exact h h' (F.ext k) k
end

section
variable {w : World} {A : Around} {s : Shared} {E : Value → Shared → Prop} {g : Heap} {L : Addr} {m : Str → Option Value} {news : List (Addr × Obj)} {scope : Scope} {cl : List (Str × Addr)} {env : Env}
theorem evInts {Q : Value → Shared → Prop} {x y : Str} {px py p1 p2 p3 p4 p5 p6 pos : Pos} {k1 : Nat} {t : Addr} {vs : List Value} {ns : List Int} (C : Cx w g) (hh : A.handled = none) (F : Fm g L s.heap m news) (hl : g.IsList t vs.toArray) (hI : IntsAre vs ns) (hsz : vs.length ≤ 1000)
    (hL : env.locals = L) (hke : env.scope.kind = .function) (hy : env.kindOf y = some .local) (hdb : (y == ("__debug__" : Str)) = false) (hv : m y = some (.ref t))
    (hs : ∀ x, foldedSetIterable (.Subscript (.Name y py) (.Slice none (some (.Constant (.int 14) k1 p4)) none p5) p6) env x = pure x)
    (hclos : closureFor scope env = pure cl) (hcell : ∀ y ∈ scope.names, y.2 ≠ .cell) (hnames : ∀ y ∈ scope.names, y.2 = .local → scope.names.lookup y.1 = some .local)
    (hx : scope.names.lookup x = some .local) (hk : scope.kind = .function)
    (turn : ∀ (n : Int) (t : Tok) C g₁ m₁ h tk led, Ext g g₁ → m₁ x = some (.int n t) → Fm g₁ C h m₁ led →
      wpAny (model PR w) A (eval (.Call (.Name "int" p1) [.Name x p2] [] p3) (compEnvC scope cl C env)) (fun y s₄ => y = .int n t ∧ Kept s g₁ C led s₄ fun _ => True) no { s with heap := h, toks := tk })
    (done : ∀ D h' tk ys ns' k, s.heap.get? D = none → IntsAre ys ns' → ns'.length ≤ 1000 → Ext s.heap h' → Fm g L h' m ((D, listOf ys.toArray k) :: news) → Q (.ref D) { s with heap := h', toks := tk }) :
    wpAny (model PR w) A (eval (.ListComp (.Call (.Name "int" p1) [.Name x p2] [] p3) [⟨.Name x px, .Subscript (.Name y py) (.Slice none (some (.Constant (.int 14) k1 p4)) none p5) p6, [], 0⟩] scope pos) env) Q E s := by
  refine evComp (Q := Q) (L := L) ?_ hclos hcell hk hnames hs
  refine Subscript_ ?_
  refine nmL F hL hke hy hdb hv ?_
  refine wpAny_Slice ?_
  refine wpAny_pure ?_
  show wpAny _ A (eval (.Constant (.int 14) k1 p4) env) _ _ _
  refine wpAny_Constant_int ?_
  refine wpAny_pure ?_
  have F' : Fm g L ({ s with toks := s.toks + 1 } : Shared).heap m news := F
  refine sliceFm (s := { s with toks := s.toks + 1 }) F' (F.list hl) (by rw [sizeLine_eq]; omega) fun D₀ h₀ hn₀ x₀ F₀ => ?_
  have hI₀ : IntsAre (slicePick vs.toArray none (some 14) none).toList (ns.take 14) := slice_ints_uptoW hI (by decide)
  have hlen : (slicePick vs.toArray none (some 14) none).toList.length ≤ 14 := by rw [hI₀.length, List.length_take]; omega
  generalize hz : (slicePick vs.toArray none (some 14) none).toList = zs at *
  have hzs : slicePick vs.toArray none (some 14) none = zs.toArray := by rw [← hz]
  rw [hzs] at F₀
  obtain ⟨g₀, y₀, F₁, hD₀⟩ := F₀.sink1
  refine iterCompL (Q := Q) (g := g₀) (news := news) (m := m) (xs := zs) hh F₁ (F₁.list (xs := zs.toArray) ⟨_, hD₀, rfl, _, rfl⟩) (by rw [sizeLine_eq]; omega) hx hk (fun _ => true) (fun i _ y => ∃ t a, (ns.take 14)[i]? = some a ∧ y = .int (id a) t) (fun _ _ _ _ _ h => h) ?_ ?_
  · rintro i v hv C' g₁ m₁ h tk led x₁ hn hm F₄
    obtain ⟨n, t', hn', rfl⟩ : ∃ n t', (ns.take 14)[i]? = some n ∧ v = .int n t' := by
      have hi := (List.getElem?_eq_some_iff.mp hv).1
      obtain ⟨t, h⟩ := hI₀.get i _ (List.getElem?_eq_getElem (by rw [← hI₀.length]; exact hi))
      rw [hv] at h
      exact ⟨_, t, List.getElem?_eq_getElem _, Option.some.inj h⟩
    refine wpAny_pure ⟨rfl, (fun e => nomatch e), fun _ => ?_⟩
    refine wpAny_mono (turn n t' C' g₁ m₁ h tk led (y₀.trans x₁) hm F₄) (fun y s₄ h₄ => ?_) fun _ _ q => q
    obtain ⟨rfl, g₂, h', tk', m₂, rfl, x₂, F₅, _⟩ := h₄
    exact ⟨g₂, h', tk', m₂, rfl, x₂, F₅, t', n, hn', rfl⟩
  · intro D h' tk ys k hD hys x₁ F₄
    have e := hys.ints (ns.take 14) id (by rw [hI₀.length]; omega)
    have hn' : s.heap.get? D = none := by
      cases e : s.heap.get? D with
      | none => rfl
      | some o => have := x₀ _ _ e; rw [show h₀.get? D = none from hD] at this; cases this
    refine done D h' tk ys _ k hn' e (by simp only [List.length_map, List.length_take]; omega) (x₀.trans x₁) ⟨F₄.ns, fun b o q => F₄.keep b o (y₀ b o q), fun p hp => ⟨(F₄.new p hp).1, (F₄.new p hp).2.1, ?_⟩, ?_, F₄.sep⟩
    · cases e : g.get? p.1 with
      | none => rfl
      | some o => have := y₀ _ _ e; rw [(F₄.new p hp).2.2] at this; cases this
    · cases e : g.get? L with
      | none => rfl
      | some o => have := y₀ _ _ e; rw [F₄.off] at this; cases this
end

def PoolObj (o : Obj) (cs : Addr) (spot : Nat) : Prop := o.cls = .type "list" ∧ ∃ n t, o.data = .seq [.ref cs, .int spot t].toArray n
section
variable {w : World} {A : Around} {s : Shared} {E : Value → Shared → Prop} {Q : Value → Shared → Prop} {g : Heap} {L : Addr} {m : Str → Option Value} {news : List (Addr × Obj)}
theorem drawFm {P cs : Addr} {oP : Obj} {u : Obj → List (Addr × Obj)} {spot : Nat} {many : Int} {tm : Tok} {vs : List Value} {ns : List Int} (C : Cx w g) (F : Fm g L s.heap m news) (U : At P oP news u) (hP : PoolObj oP cs spot) (hdp : A.depth < recursionLimit) (hh : A.handled = none)
    (hc : g.IsList cs vs.toArray) (hI : IntsAre vs ns) (hn : ns.length ≤ 1000) (hs : spot ≤ 1000) (hm : 0 < many)
    (hQ : ∀ d t h' tk oP', 0 ≤ d → d < many → PoolObj oP' cs (spot + 1) → Fm g L h' m (u oP') → Q (.int d t) { s with heap := h', toks := tk }) :
    wpAny (model PR w) A (call (.ref 102) [.ref P, .int many tm]) Q E s := by
  obtain ⟨hc1, n, t, hd⟩ := hP
  refine law_draw C F.keep hdp hh ⟨t, oP, F.get U.mem, hc1, n, hd⟩ (F.new _ U.mem).2.2 hc hI hn hs hm fun d t' h' tk h0 h1 hP' k => ?_
  obtain ⟨t'', oP', ho', hc', n', hd'⟩ := hP'
  exact hQ d t' h' tk oP' h0 h1 ⟨hc', n', t'', hd'⟩ (F.updX U k ho')
end
section
variable {prog : Program} {w : World} {A : Around} {s : Shared} {E : Value → Shared → Prop} {Q : Value → Shared → Prop} {g : Heap} {L : Addr} {m : Str → Option Value} {news : List (Addr × Obj)}
theorem range2Fm {a b : Int} {t u : Tok} (F : Fm g L s.heap m news)
    (h : ∀ r h' tk t₁ u₁ v₁, IsRange h' r a b 1 t₁ u₁ v₁ → Fm g L h' m news → Q (.ref r) { s with heap := h', toks := tk }) :
    wpAny (model prog w) A (call (.type "range") [.int a t, .int b u]) Q E s :=
  call_range_2 (h _ _ _ _ _ _ (IsRange.new ..) (F.ext (Ext.push _ _)))
theorem range1Fm {b : Int} {u : Tok} (F : Fm g L s.heap m news)
    (h : ∀ r h' tk t₁ u₁ v₁, IsRange h' r 0 b 1 t₁ u₁ v₁ → Fm g L h' m news → Q (.ref r) { s with heap := h', toks := tk }) :
    wpAny (model prog w) A (call (.type "range") [.int b u]) Q E s :=
  call_range_1 (h _ _ _ _ _ _ (IsRange.new ..) (F.ext (Ext.push _ _)))
end
/-- what the draws make of a route -/
structure RtOk (r : Rt) (i : Nat) : Prop where
  num : r.num = i + 1
  as : r.as = 7 ∨ r.as = 8
  med : r.med = 0 ∨ r.med = 1
  cost : r.cost = 1 ∨ r.cost = 2 ∨ r.cost = 3
/-- a peer's own dict -/
def PeerAt (w : World) (g : Heap) (kvs : List (Int × Value)) (k : Int) : Prop := ∃ p v t0 t1 t2, valueAt kvs k = some (.ref p) ∧ (p == sysModules) = false ∧
  g.DictOf (strKind PR w) p [("id", .int k t0), ("as", v), ("addr", .int (20 - k) t1), ("kind", .str "ebgp" t2)]
theorem PeerAt.mono {w : World} {g g' : Heap} {kvs : List (Int × Value)} {k : Int} (x : PeerAt w g kvs k) (e : Ext g g') : PeerAt w g' kvs k :=
  let ⟨p, v, t0, t1, t2, a, b, c⟩ := x; ⟨p, v, t0, t1, t2, a, b, dictMono c e⟩
/-- the drawing loop's state -/
structure Drawn' (w : World) (g : Heap) (CS PL RL PD : Addr) (rest : List (Addr × Obj)) (i : Nat) (m : Str → Option Value) (news : List (Addr × Obj)) (xs : List (Addr × Rt)) (kl : Nat) (oP oD : Obj) (kvs : List (Int × Value)) : Prop where
  led : news = (PD, oD) :: (RL, listOf (vals xs).toArray kl) :: (PL, oP) :: rest
  len : xs.length = i
  R : AreR w g xs
  ok : ∀ j p, xs[j]? = some p → RtOk p.2 j
  pool : PoolObj oP CS (1 + 3 * i)
  dict : oD.IsDictOf (intKind PR w) kvs
  dlen : kvs.length ≤ i
  peer : ∀ p ∈ xs, PeerAt w g kvs p.2.num
  m1 : m "pool" = some (.ref PL)
  m2 : m "routes" = some (.ref RL)
  m3 : m "peers" = some (.ref PD)

theorem valueAt_stored {K : Type} [DecidableEq K] (kvs : List (K × Value)) (k : K) (v : Value) (q : K) : valueAt (stored kvs k v) q = if q = k then some v else valueAt kvs q := by
  unfold stored
  have hm : ∀ kvs : List (K × Value), (kvs.any fun kv => kv.1 = k) = true → valueAt (kvs.map fun kv => if kv.1 = k then (kv.1, v) else kv) q = if q = k then some v else valueAt kvs q := by
    intro kvs
    induction kvs with
    | nil => intro h; simp at h
    | cons p r ih =>
      intro h
      simp only [List.map_cons, valueAt, List.find?_cons]
      by_cases e : p.1 = k
      · simp only [if_pos e]
        by_cases eq : q = k
        · have e1 : p.1 = q := e.trans eq.symm
          rw [decide_eq_true e1, if_pos eq]; rfl
        · have e1 : ¬ p.1 = q := fun x => eq (x.symm.trans e)
          rw [decide_eq_false e1, if_neg eq]
          simp only
          by_cases hr : (r.any fun kv => kv.1 = k) = true
          · have := ih hr; rw [if_neg eq] at this; exact this
          · have : (r.map fun kv => if kv.1 = k then (kv.1, v) else kv) = r := by
              have hr' : ∀ x ∈ r, ¬ x.1 = k := fun x hx e => hr (List.any_eq_true.mpr ⟨x, hx, by simp [e]⟩)
              conv => rhs; rw [← List.map_id r]
              exact List.map_congr_left fun x hx => by rw [if_neg (hr' x hx)]; rfl
            rw [this]
      · simp only [if_neg e]
        have hr : (r.any fun kv => kv.1 = k) = true := by simpa [e] using h
        have := ih hr
        by_cases e1 : p.1 = q
        · rw [decide_eq_true e1]
          have : ¬ q = k := fun x => e (e1.trans x)
          rw [if_neg this]
        · rw [decide_eq_false e1]
          exact this
  split
  · exact hm kvs (by assumption)
  · rename_i hn
    simp only [valueAt, List.find?_append]
    have hn' : ∀ x ∈ kvs, ¬ x.1 = k := fun x hx e => hn (List.any_eq_true.mpr ⟨x, hx, by simp [e]⟩)
    by_cases eq : q = k
    · subst eq
      have : kvs.find? (fun kv => decide (kv.1 = q)) = none := List.find?_eq_none.mpr fun x hx => by simpa using hn' x hx
      rw [this]; simp
    · have : ¬ k = q := fun x => eq x.symm
      simp [eq, this]
theorem IsRoute.mk' {w : World} {h : Heap} {a n8 d : Addr} {r : Rt} {pv : Value} {t0 t1 t2 t3 t4 t5 t6 t7 : Tok}
    (tup : IsTup h a [.ref n8, .ref d, .int r.num t0, .int r.cost t1, .int 0 t2].toArray) (pre : IsTup h n8 [.int 8 t3, .int 3 t4].toArray) (lo : (d == sysModules) = false)
    (attrs : h.DictOf (strKind PR w) d [("origin", .int 0 t5), ("as_path", pv), ("next_hop", .int 1 t6), ("med", .int r.med t7)]) (path : IsPath h pv r.as) : IsRoute w h a r :=
  ⟨n8, d, pv, fun k => ([t0, t1, t2, t3, t4, t5, t6, t7][k]?).getD 0, ⟨tup, pre, lo, attrs, path⟩⟩
theorem IsTup.uniq {h : Heap} {a : Addr} {xs ys : List Value} (x : IsTup h a xs.toArray) (y : IsTup h a ys.toArray) : xs = ys := by
  obtain ⟨o, ho, _, n, hd⟩ := x
  obtain ⟨o', ho', _, n', hd'⟩ := y
  rw [ho] at ho'; cases ho'
  rw [hd] at hd'
  injection hd' with e
  exact congrArg Array.toList e
theorem IsRoute.num_eq {w : World} {h : Heap} {a : Addr} {r r' : Rt} (x : IsRoute w h a r) (y : IsRoute w h a r') : r.num = r'.num := by
  obtain ⟨n8, d, pv, t, X⟩ := x
  obtain ⟨n8', d', pv', t', Y⟩ := y
  have := IsTup.uniq X.tup Y.tup
  simp at this
  exact this.2.2.1.1
/-- routes numbered by their places are unlike -/
theorem numsOk_of {w : World} {h : Heap} {xs : List (Addr × Rt)} (R : AreR w h xs) (ok : ∀ j p, xs[j]? = some p → RtOk p.2 j) : NumsOk xs := by
  intro p hp q hq
  constructor
  · intro e
    obtain ⟨i, hi⟩ := List.mem_iff_getElem?.mp hp
    obtain ⟨j, hj⟩ := List.mem_iff_getElem?.mp hq
    have h1 := (ok i p hi).num
    have h2 := (ok j q hj).num
    have : i = j := by omega
    subst this
    rw [hi] at hj; cases hj; rfl
  · intro e
    have h1 := R p hp
    have h2 := R q hq
    rw [← e] at h2
    exact h1.num_eq h2

section
variable {prog : Program} {w : World} {A : Around} {s : Shared} {E : Value → Shared → Prop} {Q : Value → Shared → Prop}
theorem eqBB {a b : Bool} (h : Q (.bool (a == b)) s) : wpAny (model prog w) A (compareOp .Eq (.bool a) (.bool b)) Q E s := (SeqAt.RcAt.bool_bool a b) prog w E Q h
theorem neBB {a b : Bool} (h : Q (.bool (!(a == b))) s) : wpAny (model prog w) A (compareOp .NotEq (.bool a) (.bool b)) Q E s := (SeqAt.RcNeAt.bool_bool a b) prog w E Q h
theorem intKey {w : World} {h : Heap} {K : Addr} {i j : Int} {t u : Tok} (x : IsTup h K [.int i t, .int j u].toArray) : IsTupleKey (intKind PR w) h [i, j] K := by
  obtain ⟨o, ho, hc, n, hd⟩ := x
  exact ⟨o, _, n, ho, hc, hd, .cons (intKind_is _ _ _ _) (.cons (intKind_is _ _ _ _) .nil)⟩
end
/-- a dict of the ledger with pairs of ints for its keys: what is known of its bools -/
def TObj (w : World) (g : Heap) (o : Obj) (S : Nat → Nat → Bool → Prop) (k : Nat) : Prop :=
  ∃ (es : Array DictEntry) (ep : Nat) (xs : List (List Int × Addr × Value)), o.ExactDict ∧ o.data = .dict es ep ∧ es.toList = xs.map (entryOfKey (tupleKind (intKind PR w))) ∧ (∀ x ∈ xs, IsTupleKey (intKind PR w) g x.1 x.2.1) ∧ (xs.map (·.1)).Nodup ∧ xs.length ≤ k ∧
    ∀ i j b, S i j b → ∃ a, atKey xs [(i : Int), (j : Int)] = some (a, .bool b)
theorem keyMono {w : World} {h h' : Heap} {ks : List Int} {a : Addr} (x : IsTupleKey (intKind PR w) h ks a) (k : Ext h h') : IsTupleKey (intKind PR w) h' ks a :=
  let ⟨o, it, n, ho, r⟩ := x; ⟨o, it, n, k _ _ ho, r⟩
theorem TObj.mono {w : World} {g g' : Heap} {o : Obj} {S : Nat → Nat → Bool → Prop} {k : Nat} (x : TObj w g o S k) (e : Ext g g') : TObj w g' o S k :=
  let ⟨es, ep, xs, a, b, c, d, r⟩ := x; ⟨es, ep, xs, a, b, c, fun y hy => keyMono (d y hy) e, r⟩
theorem TObj.weak {w : World} {g : Heap} {o : Obj} {S S' : Nat → Nat → Bool → Prop} {k k' : Nat} (x : TObj w g o S k) (hk : k ≤ k') (hS : ∀ i j b, S' i j b → S i j b) : TObj w g o S' k' :=
  let ⟨es, ep, xs, a, b, c, d, e, l, f⟩ := x; ⟨es, ep, xs, a, b, c, d, e, Nat.le_trans l hk, fun i j v h => f i j v (hS i j v h)⟩
theorem TObj.new {w : World} {g : Heap} {S : Nat → Nat → Bool → Prop} (hS : ∀ i j b, ¬ S i j b) : TObj w g { cls := .type "dict", data := .dict #[] } S 0 :=
  ⟨#[], _, [], ⟨rfl, rfl, rfl⟩, rfl, rfl, fun _ h => (nomatch h), List.nodup_nil, Nat.le_refl _, fun i j b h => absurd h (hS i j b)⟩
theorem atKey_storedH {K : Type} [DecidableEq K] (xs : List (K × Addr × Value)) (k : K) (a : Addr) (v : Value) (q : K) :
    (q = k → ∃ a', atKey (storedH xs k a v) q = some (a', v)) ∧ (q ≠ k → atKey (storedH xs k a v) q = atKey xs q) := by
  unfold storedH
  have hm : ∀ ys : List (K × Addr × Value), (q ≠ k → atKey (ys.map (putAt k v)) q = atKey ys q) ∧ (q = k → (atKey ys k).isSome → ∃ a', atKey (ys.map (putAt k v)) q = some (a', v)) := by
    intro ys
    induction ys with
    | nil => exact ⟨fun _ => rfl, fun _ h => by simp [atKey] at h⟩
    | cons p r ih =>
      simp only [List.map_cons, atKey, List.find?_cons]
      have hp : (putAt k v p).1 = p.1 := by unfold putAt; split <;> rfl
      rw [hp]
      by_cases e : p.1 = k
      · refine ⟨fun hq => ?_, fun hq _ => ?_⟩
        · have : ¬ p.1 = q := fun x => hq (x.symm.trans e)
          rw [decide_eq_false this]
          exact ih.1 hq
        · have : p.1 = q := e.trans hq.symm
          rw [decide_eq_true this]
          simp only [putAt, if_pos e]
          exact ⟨_, rfl⟩
      · refine ⟨fun hq => ?_, fun hq hs => ?_⟩
        · by_cases e1 : p.1 = q
          · rw [decide_eq_true e1]
            simp only [putAt, if_neg e]
          · rw [decide_eq_false e1]
            exact ih.1 hq
        · have : ¬ p.1 = q := fun x => e (x.trans hq)
          rw [decide_eq_false this]
          rw [decide_eq_false e] at hs
          exact ih.2 hq hs
  split
  · exact ⟨fun hq => (hm xs).2 hq (by assumption), fun hq => (hm xs).1 hq⟩
  · rename_i hn
    have hn' : xs.find? (fun x => decide (x.1 = k)) = none := by
      cases e : xs.find? (fun x => decide (x.1 = k)) with
      | none => rfl
      | some y => exact absurd (by simp [atKey, e]) hn
    refine ⟨fun hq => ⟨a, ?_⟩, fun hq => ?_⟩
    · subst hq
      simp only [atKey, List.find?_append]
      rw [hn']
      simp
    · have : ¬ k = q := fun x => hq x.symm
      simp [atKey, List.find?_append, this]
theorem storedH_len {K : Type} [DecidableEq K] (xs : List (K × Addr × Value)) (k : K) (a : Addr) (v : Value) : (storedH xs k a v).length ≤ xs.length + 1 := by
  unfold storedH; split <;> simp
theorem storedH_keys {K : Type} [DecidableEq K] (xs : List (K × Addr × Value)) (k : K) (a : Addr) (v : Value) : ∀ x ∈ storedH xs k a v, (x.1 = k ∧ x.2.1 = a) ∨ ∃ y ∈ xs, y.1 = x.1 ∧ y.2.1 = x.2.1 := by
  unfold storedH; split
  · intro x hx
    obtain ⟨y, hy, rfl⟩ := List.mem_map.mp hx
    refine .inr ⟨y, hy, ?_⟩
    unfold putAt; split <;> exact ⟨rfl, rfl⟩
  · intro x hx
    rcases List.mem_append.mp hx with hx | hx
    · exact .inr ⟨x, hx, rfl, rfl⟩
    · rw [List.mem_singleton.mp hx]; exact .inl ⟨rfl, rfl⟩
section
variable {w : World} {A : Around} {s : Shared} {E : Value → Shared → Prop} {g : Heap} {L : Addr} {m : Str → Option Value} {news : List (Addr × Obj)}
theorem TObj.at {d : Addr} {o : Obj} {S : Nat → Nat → Bool → Prop} {k : Nat} {h : Heap} (T : TObj w g o S k) (e : Ext g h) (ho : h.get? d = some o) :
    ∃ xs, h.DictOfH (tupleKind (intKind PR w)) d xs ∧ (∀ x ∈ xs, IsTupleKey (intKind PR w) g x.1 x.2.1) ∧ xs.length ≤ k ∧ ∀ i j b, S i j b → ∃ a, atKey xs [(i : Int), (j : Int)] = some (a, .bool b) :=
  let ⟨es, ep, xs, a, b, c, f, n, l, r⟩ := T
  ⟨xs, ⟨o, es, ep, ho, a, b, c, fun x hx => keyMono (f x hx) e, n⟩, f, l, r⟩
theorem setT {K d : Addr} {i j : Nat} {t u : Tok} {b : Bool} {o : Obj} {up : Obj → List (Addr × Obj)} {S : Nat → Nat → Bool → Prop} {k n : Nat} {Q : Unit → Shared → Prop} (hu : A.units + 1 < cLine)
    (F : Fm g L s.heap m ((K, { cls := .type "tuple", data := .seq [Value.int i t, Value.int j u].toArray n }) :: news)) (U : At d o news up) (T : TObj w g o S k) (hk : k ≤ sizeLine)
    (h : ∀ g' h' tk o', Ext g g' → TObj w g' o' (fun a c v => (a = i ∧ c = j ∧ v = b) ∨ (¬ (a = i ∧ c = j) ∧ S a c v)) (k + 1) → Fm g' L h' m (up o') → Q () { s with heap := h', toks := tk }) :
    wpAny (model PR w) A (setItem (.ref d) (.ref K) (.bool b)) Q E s := by
  obtain ⟨g', x, F', hK⟩ := F.sink1
  have T' := T.mono x
  have hkt : IsTupleKey (intKind PR w) g' [(i : Int), (j : Int)] K := intKey ⟨_, hK, rfl, _, rfl⟩
  obtain ⟨xs, hD, hx, hl, hS⟩ := T'.at F'.keep (F'.get U.mem)
  refine wpAny_setItem_heap (knd := tupleKind (intKind PR w)) (hsz := by omega) (tupleKind_room_in1 hu) (keyMono hkt F'.keep) hD fun h' hD' hs => ?_
  obtain ⟨o', es, ep, ho', a1, a2, a3, _, a5⟩ := hD'
  refine h g' h' _ o' x ⟨es, ep, _, a1, a2, a3, fun y hy => ?_, a5, Nat.le_trans (storedH_len _ _ _ _) (by omega), fun a c v hv => ?_⟩ (F'.upd U hs ho')
  · rcases storedH_keys _ _ _ _ y hy with ⟨e1, e2⟩ | ⟨z, hz, e1, e2⟩
    · rw [e1, e2]; exact hkt
    · rw [← e1, ← e2]; exact hx z hz
  · have hat := atKey_storedH xs [(i : Int), (j : Int)] K (.bool b) [(a : Int), (c : Int)]
    rcases hv with ⟨rfl, rfl, rfl⟩ | ⟨hne, hv⟩
    · exact hat.1 rfl
    · obtain ⟨a', ha'⟩ := hS a c v hv
      refine ⟨a', (hat.2 fun e => hne ?_).trans ha'⟩
      simp only [List.cons.injEq, and_true] at e
      omega
theorem getT {value slice : Expr} {K d : Addr} {i j : Nat} {t u : Tok} {b : Bool} {o : Obj} {S : Nat → Nat → Bool → Prop} {k : Nat} {Q : Value → Shared → Prop} (hu : A.units + 1 < cLine)
    (F : Fm g L s.heap m news) (hm : (d, o) ∈ news) (T : TObj w g o S k) (hK : IsTup s.heap K [Value.int i t, Value.int j u].toArray) (hS : S i j b)
    (h : Q (.bool b) { s with toks := s.toks + 3 })
    (hs : subscripted slice false (.ref d) (.ref K) = operate [.ref d, .ref K] (getItem (.ref d) (.ref K)) := by with_unfolding_all rfl) :
    wpAny (model PR w) A (subscriptTail value slice (.ref d) (.ref K)) Q E s := by
  obtain ⟨xs, hD, hx, hl, hv⟩ := T.at F.keep (F.get hm)
  obtain ⟨a, ha⟩ := hv i j b hS
  exact tail_any hD.typeIs slot_dict_getitem.lookup (wpAny_getItem_heap (knd := tupleKind (intKind PR w)) (tupleKind_room_in1 hu) (intKey hK) hD ha h) hs
end

theorem mem_firstLeft {xs : List (Addr × Rt)} {p : Addr × Rt} : p ∈ firstLeft xs ↔ p ∈ xs ∧ ∀ q ∈ xs, q.2.as = p.2.as → ¬ q.2.med < p.2.med := by
  unfold firstLeft
  rw [List.mem_filter]
  refine and_congr_right fun _ => ?_
  rw [List.isEmpty_iff, show ∀ l : List (Addr × Rt), vals l = [] ↔ l = [] from fun l => by simp [vals], List.filter_eq_nil_iff]
  constructor
  · intro h q hq e hm
    exact h q (List.mem_filter.mpr ⟨hq, by simpa using e⟩) (by simpa using hm)
  · intro h q hq
    obtain ⟨h1, h2⟩ := List.mem_filter.mp hq
    simpa using h q h1 (by simpa using h2)
theorem least_iff {ns : List Int} {n : Int} (hn : n ∈ ns) : least ns = n ↔ ∀ m ∈ ns, ¬ m < n := by
  constructor
  · intro e m hm hlt
    have := least_le _ hm
    omega
  · intro h
    have h1 := least_le _ hn
    have h2 := least_mem (ns := ns) (List.length_pos_of_mem hn)
    have h3 := h _ h2
    omega
theorem mem_bestMeds {b : Bool} {xs : List (Addr × Rt)} {p : Addr × Rt} : p ∈ bestMeds b xs ↔ p ∈ xs ∧ ∀ q ∈ xs, (b = true ∨ q.2.as = p.2.as) → ¬ q.2.med < p.2.med := by
  unfold bestMeds
  rw [List.mem_filter]
  refine and_congr_right fun hp => ?_
  rw [beq_iff_eq, least_iff (List.mem_map_of_mem (f := fun q : Addr × Rt => q.2.med) (by cases b <;> simp [hp]))]
  constructor
  · intro h q hq e
    refine h _ (List.mem_map_of_mem ?_)
    cases b with
    | true => exact hq
    | false => exact List.mem_filter.mpr ⟨hq, by simpa using e⟩
  · intro h m hm
    obtain ⟨q, hq, rfl⟩ := List.mem_map.mp hm
    cases b with
    | true => exact h q hq (.inl rfl)
    | false => exact h q (List.mem_filter.mp hq).1 (.inr (by simpa using (List.mem_filter.mp hq).2))
theorem mem_leastBy {f : Rt → Int} {xs : List (Addr × Rt)} {p : Addr × Rt} : p ∈ leastBy f xs ↔ p ∈ xs ∧ ∀ q ∈ xs, ¬ f q.2 < f p.2 := by
  unfold leastBy
  rw [List.mem_filter]
  refine and_congr_right fun hp => ?_
  rw [beq_iff_eq, eq_comm, least_iff (List.mem_map_of_mem (f := fun q : Addr × Rt => f q.2) hp)]
  simp only [List.mem_map, forall_exists_index, and_imp, forall_apply_eq_imp_iff₂]
/-- the best one -/
theorem best_spec {b : Bool} {xs rest : List (Addr × Rt)} {r : Addr × Rt} (e : bestList b xs = r :: rest) :
    r ∈ bestMeds b xs ∧ ∀ q ∈ bestMeds b xs, q.2.num ≠ r.2.num → kLt (r.2.cost, r.2.num) (q.2.cost, q.2.num) = true := by
  have h : r ∈ bestList b xs := by rw [e]; exact .head _
  unfold bestList at h
  have h1 := (mem_leastBy.mp h).1
  have h2 := mem_leastBy.mp h1
  have h3 := mem_leastBy.mp h2.1
  refine ⟨h3.1, fun q hq hn => ?_⟩
  have h4 := h3.2 q hq
  unfold kLt keyB
  by_cases ec : r.2.cost = q.2.cost
  · rw [if_pos ec]
    have : q ∈ leastBy (fun r => r.cost) (bestMeds b xs) := mem_leastBy.mpr ⟨hq, fun z hz => by have := h3.2 z hz; rw [← ec]; exact this⟩
    have := h2.2 q this
    simp only at this ⊢
    exact decide_eq_true (by omega)
  · rw [if_neg ec]
    simp only at ec ⊢
    exact decide_eq_true (by omega)
theorem kLt_irr {a b : Int × Int} (h : kLt a b = true) (h' : kLt b a = true) : False := by
  unfold kLt keyB at h h'
  split at h <;> split at h' <;> simp at h h' <;> omega
/-- whether the first of two is the one chosen -/
def pairB (b : Bool) (p q : Addr × Rt) : Bool := match bestList b [p, q] with
  | r :: _ => r.2.num == p.2.num
  | [] => false
theorem pairB_of {b : Bool} {p q r : Addr × Rt} {rest : List (Addr × Rt)} (e : bestList b [p, q] = r :: rest) : (r.2.num == p.2.num) = pairB b p q := by unfold pairB; rw [e]
theorem bestList_ne {b : Bool} {xs : List (Addr × Rt)} (hne : 0 < xs.length) : ∃ r rest, bestList b xs = r :: rest := by
  have hpos : 0 < (bestList b xs).length := leastBy_pos (leastBy_pos (leastBy_pos (bestMeds_pos hne)))
  cases e : bestList b xs with
  | nil => rw [e] at hpos; exact absurd hpos (by simp)
  | cons p r => exact ⟨p, r, rfl⟩
theorem pair_mem {b : Bool} {p q r : Addr × Rt} {rest : List (Addr × Rt)} (e : bestList b [p, q] = r :: rest) : r = p ∨ r = q := by
  have := (mem_bestMeds.mp (best_spec e).1).1
  simpa using this
theorem pairB_false {p q : Addr × Rt} (hn : p.2.num ≠ q.2.num) : pairB false p q = betterB p.2 q.2 := by
  obtain ⟨r, rest, e⟩ := bestList_ne (b := false) (xs := [p, q]) (by simp)
  rw [← pairB_of e]
  obtain ⟨hr, hmin⟩ := best_spec e
  have hp : p ∈ bestMeds false [p, q] ↔ (q.2.as = p.2.as → ¬ q.2.med < p.2.med) := by rw [mem_bestMeds]; simp
  have hq : q ∈ bestMeds false [p, q] ↔ (p.2.as = q.2.as → ¬ p.2.med < q.2.med) := by rw [mem_bestMeds]; simp
  unfold betterB
  rcases pair_mem e with rfl | rfl
  · have h1 := hp.mp hr
    rw [beq_self_eq_true]
    by_cases hc : r.2.as = q.2.as ∧ r.2.med ≠ q.2.med
    · rw [if_pos hc]
      have := h1 hc.1.symm
      exact (decide_eq_true (by have := hc.2; omega)).symm
    · rw [if_neg hc]
      exact (hmin q (hq.mpr fun ea hm => hc ⟨ea, by omega⟩) (Ne.symm hn)).symm
  · have h1 := hq.mp hr
    rw [show (r.2.num == p.2.num) = false by simpa using Ne.symm hn]
    by_cases hc : p.2.as = r.2.as ∧ p.2.med ≠ r.2.med
    · rw [if_pos hc]
      have := h1 hc.1
      exact (decide_eq_false this).symm
    · rw [if_neg hc]
      have h2 := hmin p (hp.mpr fun ea hm => hc ⟨ea.symm, by omega⟩) hn
      have : ¬ kLt (p.2.cost, p.2.num) (r.2.cost, r.2.num) = true := fun h => kLt_irr h h2
      exact ((Bool.not_eq_true _).mp this).symm
def lexB (p q : Rt) : Bool := if p.med = q.med then keyB p.cost p.num q.cost q.num else decide (p.med < q.med)
theorem pairB_true {p q : Addr × Rt} (hn : p.2.num ≠ q.2.num) : pairB true p q = lexB p.2 q.2 := by
  obtain ⟨r, rest, e⟩ := bestList_ne (b := true) (xs := [p, q]) (by simp)
  rw [← pairB_of e]
  obtain ⟨hr, hmin⟩ := best_spec e
  have hp : p ∈ bestMeds true [p, q] ↔ ¬ q.2.med < p.2.med := by rw [mem_bestMeds]; simp
  have hq : q ∈ bestMeds true [p, q] ↔ ¬ p.2.med < q.2.med := by rw [mem_bestMeds]; simp
  unfold lexB
  rcases pair_mem e with rfl | rfl
  · have h1 := hp.mp hr
    rw [beq_self_eq_true]
    by_cases hc : r.2.med = q.2.med
    · rw [if_pos hc]
      exact (hmin q (hq.mpr (by omega)) (Ne.symm hn)).symm
    · rw [if_neg hc]
      exact (decide_eq_true (by omega)).symm
  · have h1 := hq.mp hr
    rw [show (r.2.num == p.2.num) = false by simpa using Ne.symm hn]
    by_cases hc : p.2.med = r.2.med
    · rw [if_pos hc]
      have h2 := hmin p (hp.mpr (by omega)) hn
      have : ¬ kLt (p.2.cost, p.2.num) (r.2.cost, r.2.num) = true := fun h => kLt_irr h h2
      exact ((Bool.not_eq_true _).mp this).symm
    · rw [if_neg hc]
      exact (decide_eq_false h1).symm
theorem lexB_iff {p q : Rt} : lexB p q = true ↔ p.med < q.med ∨ (p.med = q.med ∧ (p.cost < q.cost ∨ (p.cost = q.cost ∧ p.num < q.num))) := by
  unfold lexB keyB
  split
  · split
    · simp; omega
    · simp; omega
  · simp; omega
/-- none go round when all discriminators are compared -/
theorem strict_none {a b c : Rt} (_ : a.num ≠ b.num) (_ : b.num ≠ c.num) (h3 : c.num ≠ a.num) : ((lexB a b == lexB b c) && (lexB b c == lexB c a)) = false := by
  cases e1 : lexB a b <;> cases e2 : lexB b c <;> cases e3 : lexB c a <;> try rfl
  · have f1 : ¬ lexB a b = true := by simp [e1]
    have f2 : ¬ lexB b c = true := by simp [e2]
    have f3 : ¬ lexB c a = true := by simp [e3]
    rw [lexB_iff] at f1 f2 f3
    omega
  · rw [lexB_iff] at e1 e2 e3
    omega
theorem keyB_iff {c n c' n' : Int} : keyB c n c' n' = true ↔ c < c' ∨ (c = c' ∧ n < n') := by
  unfold keyB; split
  · simp; omega
  · simp; omega
theorem keyB_flip {c n c' n' : Int} (h : n ≠ n') : keyB c' n' c n = !keyB c n c' n' := by
  cases e : keyB c n c' n' with
  | true => rw [keyB_iff] at e; simp only [Bool.not_true]; rw [Bool.eq_false_iff, Ne, keyB_iff]; omega
  | false => rw [Bool.eq_false_iff, Ne, keyB_iff] at e; simp only [Bool.not_false]; rw [keyB_iff]; omega
/-- a route of the kinds drawn -/
structure RtIn (r : Rt) : Prop where
  as : r.as = 7 ∨ r.as = 8
  med : r.med = 0 ∨ r.med = 1
theorem RtIn.asEq {r r' : Rt} (x : RtIn r) (y : RtIn r') : (r.as == r'.as) = ((r.as == 7) == (r'.as == 7)) := by
  rcases x.as with e | e <;> rcases y.as with e' | e' <;> rw [e, e'] <;> rfl
theorem RtIn.medEq {r r' : Rt} (x : RtIn r) (y : RtIn r') : (r.med == r'.med) = ((r.med == 1) == (r'.med == 1)) := by
  rcases x.med with e | e <;> rcases y.med with e' | e' <;> rw [e, e'] <;> rfl
theorem RtIn.medLt {r r' : Rt} (x : RtIn r) (y : RtIn r') : decide (r.med < r'.med) = (!(r.med == 1) && (r'.med == 1)) := by
  rcases x.med with e | e <;> rcases y.med with e' | e' <;> rw [e, e'] <;> rfl
theorem betterB_cond {r r' : Rt} (x : RtIn r) (y : RtIn r') : betterB r r' = cond (((r.as == 7) == (r'.as == 7)) && !((r.med == 1) == (r'.med == 1))) (!(r.med == 1) && (r'.med == 1)) (keyB r.cost r.num r'.cost r'.num) := by
  rw [← x.asEq y, ← x.medEq y, ← x.medLt y]
  unfold betterB
  by_cases h1 : r.as = r'.as
  · rw [beq_iff_eq.mpr h1]
    by_cases h2 : r.med = r'.med
    · rw [beq_iff_eq.mpr h2, if_neg fun h => h.2 h2]; rfl
    · rw [beq_false_of_ne h2, if_pos ⟨h1, h2⟩]; rfl
  · rw [beq_false_of_ne h1, if_neg fun h => h1 h.1]; rfl
def rB (a1 a2 a3 m1 m2 m3 k12 k23 k31 k21 k32 k13 : Bool) : Bool :=
  let cB (ag ab aw mg mb kbw kwg : Bool) : Bool := (ag == ab) && (!(ab == aw)) && (!mg && mb) && kbw && kwg
  (cB a1 a2 a3 m1 m2 k23 k31 || cB a2 a1 a3 m2 m1 k13 k32) || ((cB a2 a3 a1 m2 m3 k31 k12 || cB a3 a2 a1 m3 m2 k21 k13) || (cB a3 a1 a2 m3 m1 k12 k23 || cB a1 a3 a2 m1 m3 k32 k21))
def bB (a1 a2 m1 m2 k12 : Bool) : Bool := cond ((a1 == a2) && !(m1 == m2)) (!m1 && m2) k12
theorem round_bool : ∀ a1 a2 a3 m1 m2 m3 k12 k23 k31 : Bool, ((k12 == k23) && (k23 == k31)) = false →
    ((bB a1 a2 m1 m2 k12 == bB a2 a3 m2 m3 k23) && (bB a2 a3 m2 m3 k23 == bB a3 a1 m3 m1 k31)) = rB a1 a2 a3 m1 m2 m3 k12 k23 k31 (!k12) (!k23) (!k31) := by decide
theorem round_eq {a b c : Addr × Rt} (x : RtIn a.2) (y : RtIn b.2) (z : RtIn c.2) (h1 : a.2.num ≠ b.2.num) (h2 : b.2.num ≠ c.2.num) (h3 : c.2.num ≠ a.2.num) :
    ((betterB a.2 b.2 == betterB b.2 c.2) && (betterB b.2 c.2 == betterB c.2 a.2)) = roundB a b c := by
  have hr : roundB a b c = rB (a.2.as == 7) (b.2.as == 7) (c.2.as == 7) (a.2.med == 1) (b.2.med == 1) (c.2.med == 1) (keyB a.2.cost a.2.num b.2.cost b.2.num) (keyB b.2.cost b.2.num c.2.cost c.2.num) (keyB c.2.cost c.2.num a.2.cost a.2.num)
      (!keyB a.2.cost a.2.num b.2.cost b.2.num) (!keyB b.2.cost b.2.num c.2.cost c.2.num) (!keyB c.2.cost c.2.num a.2.cost a.2.num) := by
    rw [← keyB_flip h1, ← keyB_flip h2, ← keyB_flip h3]
    simp only [roundB, triples, List.any_cons, List.any_nil, Bool.or_false, tripleB, condB, rB, x.asEq y, y.asEq x, y.asEq z, z.asEq y, z.asEq x, x.asEq z, x.medLt y, y.medLt x, y.medLt z, z.medLt y, z.medLt x, x.medLt z, bne]
  rw [hr, betterB_cond x y, betterB_cond y z, betterB_cond z x]
  refine round_bool _ _ _ _ _ _ _ _ _ ?_
  cases e1 : keyB a.2.cost a.2.num b.2.cost b.2.num <;> cases e2 : keyB b.2.cost b.2.num c.2.cost c.2.num <;> cases e3 : keyB c.2.cost c.2.num a.2.cost a.2.num <;> try rfl
  · rw [Bool.eq_false_iff, Ne, keyB_iff] at e1 e2 e3; omega
  · rw [keyB_iff] at e1 e2 e3; omega
/-- the best one is the first by cost and id of those whom none of their neighbour's is better than -/
theorem best_first {xs rest : List (Addr × Rt)} {r p : Addr × Rt} (hd : ∀ p ∈ xs, ∀ q ∈ xs, p.2.num = q.2.num → p = q) (e : bestList false xs = r :: rest) (hp : p ∈ firstLeft xs)
    (hmin : ∀ q ∈ firstLeft xs, q ≠ p → kLt (p.2.cost, p.2.num) (q.2.cost, q.2.num) = true) : r = p := by
  obtain ⟨hr, hbest⟩ := best_spec e
  have hr1 := mem_bestMeds.mp hr
  have hp1 := mem_firstLeft.mp hp
  have hr' : r ∈ firstLeft xs := mem_firstLeft.mpr ⟨hr1.1, fun q hq ea => hr1.2 q hq (.inr ea)⟩
  have hp' : p ∈ bestMeds false xs := mem_bestMeds.mpr ⟨hp1.1, fun q hq ea => hp1.2 q hq (ea.resolve_left (by simp))⟩
  by_cases h : r = p
  · exact h
  · have h1 := hmin r hr' h
    have h2 := hbest p hp' fun e => h (hd r hr1.1 p hp1.1 e.symm)
    exact (kLt_irr h1 h2).elim
/-- a route that is not chosen turns the choice when it goes just if it alone is better by its discriminator than the one chosen then -/
theorem gone_law {xs : List (Addr × Rt)} {best gone q : Addr × Rt} (hnd : xs.Nodup) (hg : gone ∈ xs)
    (hbest : best ∈ firstLeft xs) (hmin : ∀ z ∈ firstLeft xs, z ≠ best → kLt (best.2.cost, best.2.num) (z.2.cost, z.2.num) = true) (hne : best ≠ gone)
    (hq : q ∈ firstLeft (xs.filter fun p => decide (p ≠ gone))) (hqmin : ∀ z ∈ firstLeft (xs.filter fun p => decide (p ≠ gone)), z ≠ q → kLt (q.2.cost, q.2.num) (z.2.cost, z.2.num) = true) :
    q ≠ best ↔ ((xs.filter fun p => p.2.as == q.2.as).filter fun p => decide (p.2.med < q.2.med)) = [gone] := by
  have hb := mem_firstLeft.mp hbest
  have hq' := mem_firstLeft.mp hq
  have hqx : q ∈ xs ∧ q ≠ gone := by simpa using hq'.1
  have hbf : best ∈ firstLeft (xs.filter fun p => decide (p ≠ gone)) := mem_firstLeft.mpr ⟨by simpa using ⟨hb.1, hne⟩, fun z hz => hb.2 z (List.mem_filter.mp hz).1⟩
  have mem : ∀ z, z ∈ ((xs.filter fun p => p.2.as == q.2.as).filter fun p => decide (p.2.med < q.2.med)) ↔ z ∈ xs ∧ z.2.as = q.2.as ∧ z.2.med < q.2.med := by
    intro z; rw [List.mem_filter, List.mem_filter, beq_iff_eq, decide_eq_true_iff, and_assoc]
  have only : ∀ z, z ∈ ((xs.filter fun p => p.2.as == q.2.as).filter fun p => decide (p.2.med < q.2.med)) → z = gone := by
    intro z hz
    obtain ⟨h1, h2, h3⟩ := (mem z).mp hz
    by_cases e : z = gone
    · exact e
    · exact absurd h3 (hq'.2 z (by simpa using ⟨h1, e⟩) h2)
  constructor
  · intro hne'
    have hin : gone ∈ ((xs.filter fun p => p.2.as == q.2.as).filter fun p => decide (p.2.med < q.2.med)) := by
      by_cases hql : q ∈ firstLeft xs
      · exact (kLt_irr (hmin q hql hne') (hqmin best hbf (Ne.symm hne'))).elim
      · by_cases hgm : gone.2.as = q.2.as ∧ gone.2.med < q.2.med
        · exact (mem gone).mpr ⟨hg, hgm⟩
        · refine absurd (mem_firstLeft.mpr ⟨hqx.1, fun z hz ea hm => ?_⟩) hql
          have := only z ((mem z).mpr ⟨hz, ea, hm⟩)
          subst this
          exact hgm ⟨ea, hm⟩
    have hn : ((xs.filter fun p => p.2.as == q.2.as).filter fun p => decide (p.2.med < q.2.med)).Nodup := (hnd.sublist List.filter_sublist).sublist List.filter_sublist
    generalize ((xs.filter fun p => p.2.as == q.2.as).filter fun p => decide (p.2.med < q.2.med)) = l at *
    match l, hin, hn, only with
    | [], hin, _, _ => exact absurd hin (by simp)
    | [z], _, _, o => rw [o z (.head _)]
    | y :: z :: r, _, hn, o => exact absurd (List.nodup_cons.mp hn).1 (by rw [o y (.head _), o z (.tail _ (.head _))]; simp)
  · intro e e'
    have : gone ∈ ((xs.filter fun p => p.2.as == q.2.as).filter fun p => decide (p.2.med < q.2.med)) := by rw [e]; exact .head _
    obtain ⟨_, h2, h3⟩ := (mem gone).mp this
    rw [e'] at h2 h3
    exact hb.2 gone hg h2 h3
theorem firstLeft_pos {xs : List (Addr × Rt)} (h : 0 < xs.length) : 0 < (firstLeft xs).length := by
  have hpos := bestMeds_pos (b := false) h
  obtain ⟨p, hp⟩ := List.exists_mem_of_length_pos hpos
  have := mem_bestMeds.mp hp
  exact List.length_pos_of_mem (mem_firstLeft.mpr ⟨this.1, fun q hq ea => this.2 q hq (.inr ea)⟩)

structure NamesAt (m : Str → Option Value) (PL RL PD PO AO TD SD : Addr) : Prop where
  m1 : m "pool" = some (.ref PL)
  m2 : m "routes" = some (.ref RL)
  m3 : m "peers" = some (.ref PD)
  m4 : m "plain" = some (.ref PO)
  m5 : m "always" = some (.ref AO)
  m6 : m "told" = some (.ref TD)
  m7 : m "strict" = some (.ref SD)
def Told (b : Bool) (xs : List (Addr × Rt)) (i j a c : Nat) (v : Bool) : Prop := (a < i ∨ (a = i ∧ c < j)) ∧ a ≠ c ∧ ∃ p q, xs[a]? = some p ∧ xs[c]? = some q ∧ v = pairB b p q
theorem Told.none {b : Bool} {xs : List (Addr × Rt)} {a c : Nat} {v : Bool} : ¬ Told b xs 0 0 a c v := by rintro ⟨h, _⟩; omega
theorem Told.skip {b : Bool} {xs : List (Addr × Rt)} {i a c : Nat} {v : Bool} (h : Told b xs i (i + 1) a c v) : Told b xs i i a c v := ⟨by have := h.1; have := h.2.1; omega, h.2⟩
theorem Told.put {b : Bool} {xs : List (Addr × Rt)} {i j a c : Nat} {v : Bool} {p q : Addr × Rt} (hp : xs[i]? = some p) (hq : xs[j]? = some q) (h : Told b xs i (j + 1) a c v) :
    (a = i ∧ c = j ∧ v = pairB b p q) ∨ (¬ (a = i ∧ c = j) ∧ Told b xs i j a c v) := by
  by_cases e : a = i ∧ c = j
  · obtain ⟨rfl, rfl⟩ := e
    obtain ⟨_, _, p', q', hp', hq', rfl⟩ := h
    rw [hp] at hp'; rw [hq] at hq'; cases hp'; cases hq'
    exact .inl ⟨rfl, rfl, rfl⟩
  · exact .inr ⟨e, by have := h.1; omega, h.2⟩
theorem Told.row {b : Bool} {xs : List (Addr × Rt)} {i a c : Nat} {v : Bool} (h : Told b xs (i + 1) 0 a c v) : Told b xs i xs.length a c v := by
  obtain ⟨h1, h2, p, q, hp, hq, h3⟩ := h
  have := (List.getElem?_eq_some_iff.mp hq).1
  exact ⟨by omega, h2, p, q, hp, hq, h3⟩
theorem vals_len {xs : List (Addr × Rt)} : (vals xs).length = xs.length := List.length_map _
theorem vals_get {xs : List (Addr × Rt)} {i : Nat} {v : Value} (h : (vals xs)[i]? = some v) : ∃ p, xs[i]? = some p ∧ v = .ref p.1 := by
  unfold vals at h
  rw [List.getElem?_map] at h
  cases e : xs[i]? with
  | none => rw [e] at h; cases h
  | some p => rw [e] at h; exact ⟨p, rfl, by cases h; rfl⟩

theorem useFn {G : Prop} {w : World} {f : Addr} {name qual : Str} {params : Arguments} {body : List Stmt} {scope : Scope} {dV kV doc pm cdv ct oc : Value} {an od : Option Addr} {osl : Array (Option Value)}
  {name' qual' : Str} {params' : Arguments} {body' : List Stmt} {scope' : Scope} {dV' kV' doc' pm' cdv' ct' oc' : Value} {an' od' : Option Addr} {osl' : Array (Option Value)}
  (ho : (hd.heap_39 w.params).lookup f = some ⟨oc, od, .func (fnOf name qual params body scope dV kV doc pm an cdv ct), osl⟩) (h : (hd.heap_39 w.params).lookup f = some ⟨oc', od', .func (fnOf name' qual' params' body' scope' dV' kV' doc' pm' an' cdv' ct'), osl'⟩)
  (k : qual = qual' → body = body' → scope = scope' → cdv = cdv' → G) : G := by
  have := Option.some.inj (ho.symm.trans h)
  injection this with _ _ e _
  injection e with e
  injection e with a b c d e f g h i j k'
  injection d with d
  exact k b d e (by assumption)
structure Base (w : World) (g : Heap) (xs : List (Addr × Rt)) (CS RL PD PO AO : Addr) (ys : List Value) : Prop where
  C : Cx w g
  list : g.IsList RL (vals xs).toArray
  R : AreR w g xs
  P : ∀ p ∈ xs, HasPeer w g PD p.2.num
  O0 : IsOpts w g PO false
  O1 : IsOpts w g AO true
  cs : g.IsList CS ys.toArray
  ok : ∀ j p, xs[j]? = some p → RtOk p.2 j
  len : xs.length = 3 ∨ xs.length = 4
theorem Base.mono {w : World} {g g' : Heap} {xs : List (Addr × Rt)} {CS RL PD PO AO : Addr} {ys : List Value} (B : Base w g xs CS RL PD PO AO ys) (x : Ext g g') : Base w g' xs CS RL PD PO AO ys :=
  ⟨B.C.keeps x, B.list.at fun _ => x _ _, B.R.mono x, fun p hp => (B.P p hp).mono x, B.O0.mono x, B.O1.mono x, B.cs.at fun _ => x _ _, B.ok, B.len⟩
theorem Base.N {w : World} {g : Heap} {xs : List (Addr × Rt)} {CS RL PD PO AO : Addr} {ys : List Value} (B : Base w g xs CS RL PD PO AO ys) : NumsOk xs := numsOk_of B.R B.ok
theorem Base.nums {w : World} {g : Heap} {xs : List (Addr × Rt)} {CS RL PD PO AO : Addr} {ys : List Value} (B : Base w g xs CS RL PD PO AO ys) {i j : Nat} {p q : Addr × Rt} (hp : xs[i]? = some p) (hq : xs[j]? = some q) (h : i ≠ j) : p.2.num ≠ q.2.num := by
  rw [(B.ok i p hp).num, (B.ok j q hq).num]; omega
theorem Base.rtIn {w : World} {g : Heap} {xs : List (Addr × Rt)} {CS RL PD PO AO : Addr} {ys : List Value} (B : Base w g xs CS RL PD PO AO ys) {i : Nat} {p : Addr × Rt} (hp : xs[i]? = some p) : RtIn p.2 := ⟨(B.ok i p hp).as, (B.ok i p hp).med⟩
section
variable {prog : Program} {w : World} {A : Around} {E : Value → Shared → Prop} {s : Shared} {g : Heap} {L : Addr} {m : Str → Option Value} {news : List (Addr × Obj)} {env : Env}
/-- a pair taken apart into a cell and a name -/
theorem asgTupCL {a b : Str} {pa pb tp : Pos} {kk : Nat} {T ca : Addr} {oa : Obj} {old : Option Value} {u : Obj → List (Addr × Obj)} {x y : Value} {Q : Unit → Shared → Prop} (hh : A.handled = none) (F : Fm g L s.heap m news) (ht : s.heap.IsTuple T #[x, y]) (hL : env.locals = L)
    (hk : env.scope.kind = .function) (ha : env.kindOf a = some .cell) (hc : env.cells.lookup a = some ca) (U : At ca oa news u) (hoa : oa.data = .cell old) (hb : env.kindOf b = some .local)
    (h : ∀ (h' : Heap) (tk : Nat) (o' : Obj), o'.data = .cell (some x) → Fm g L h' (fun z => if z = b then some y else m z) (u o') → Q () { s with heap := h', toks := tk }) :
    wpAny (model prog w) A (assign (.Tuple [.Name a pa, .Name b pb] kk tp) env (.ref T)) Q E s := by
  refine wpAny_assign_Tuple hh ht rfl rfl fun h₁ he₁ => ?_
  have F₁ := F.ext (h' := h₁) fun c o e => he₁ c o (Nat.ne_of_lt (Heap.lt_size e)) e
  show wpAny _ _ (assignInOrder [assign (.Name a pa) env, assign (.Name b pb) env] [x, y]) _ _ _
  refine assignInOrder_cons (PySem.wpAny_assign_Name (stC F₁ hk ha hc U hoa fun h₂ o' d' F₂ => ?_))
  refine assignInOrder_cons (PySem.wpAny_assign_Name (stL F₂ hL hk hb fun h₃ F₃ => ?_))
  exact assignInOrder_nil (h h₃ _ o' d' F₃)
end

section
variable {prog : Program} {w : World} {A : Around} {E : Value → Shared → Prop} {s : Shared} {g : Heap} {L : Addr} {m : Str → Option Value} {news : List (Addr × Obj)} {env : Env}
/-- a list of routes held against a list of one -/
theorem eqOne {Q : Value → Shared → Prop} {l b : Addr} {ws : List (Addr × Rt)} {z : Addr × Rt} (hl : s.heap.IsList l (vals ws).toArray) (hb : s.heap.IsList b [Value.ref z.1].toArray) (hw : ws = [] ∨ ws = [z]) (hu : A.units < cLine)
    (h : Q (.bool (decide (ws = [z]))) s) : wpAny (model prog w) A (compareOp .Eq (.ref l) (.ref b)) Q E s := by
  rcases hw with rfl | rfl
  · exact SeqAt.eq_list_lengthsAt hl hb (by simp [vals]) hu (by simpa using h)
  · refine SeqAt.eq_listAt (e := fun _ => true) hl hb rfl hu (fun j h1 h2 => ?_) (by simpa using h)
    have : j = 0 := by simp [vals] at h1; omega
    subst this
    exact .same _
/-- a pair taken apart into two cells -/
theorem asgTupCC {a b : Str} {pa pb tp : Pos} {kk : Nat} {T ca cb : Addr} {oa ob : Obj} {old olb : Option Value} {u : Obj → List (Addr × Obj)} {u' : Obj → Obj → List (Addr × Obj)} {x y : Value} {Q : Unit → Shared → Prop} (hh : A.handled = none) (F : Fm g L s.heap m news) (ht : s.heap.IsTuple T #[x, y])
    (hk : env.scope.kind = .function) (ha : env.kindOf a = some .cell) (hc : env.cells.lookup a = some ca) (U : At ca oa news u) (hoa : oa.data = .cell old)
    (hb : env.kindOf b = some .cell) (hcb : env.cells.lookup b = some cb) (U' : ∀ o', At cb ob (u o') (u' o')) (hob : ob.data = .cell olb)
    (h : ∀ (h' : Heap) (tk : Nat) (o' o'' : Obj), o'.data = .cell (some x) → o''.data = .cell (some y) → Fm g L h' m (u' o' o'') → Q () { s with heap := h', toks := tk }) :
    wpAny (model prog w) A (assign (.Tuple [.Name a pa, .Name b pb] kk tp) env (.ref T)) Q E s := by
  refine wpAny_assign_Tuple hh ht rfl rfl fun h₁ he₁ => ?_
  have F₁ := F.ext (h' := h₁) fun c o e => he₁ c o (Nat.ne_of_lt (Heap.lt_size e)) e
  show wpAny _ _ (assignInOrder [assign (.Name a pa) env, assign (.Name b pb) env] [x, y]) _ _ _
  refine assignInOrder_cons (PySem.wpAny_assign_Name (stC F₁ hk ha hc U hoa fun h₂ o' d' F₂ => ?_))
  refine assignInOrder_cons (PySem.wpAny_assign_Name (stC F₂ hk hb hcb (U' o') hob fun h₃ o'' d'' F₃ => ?_))
  exact assignInOrder_nil (h h₃ _ o' o'' d' d'' F₃)
end
theorem Base.nodupNums {w : World} {g : Heap} {xs : List (Addr × Rt)} {CS RL PD PO AO : Addr} {ys : List Value} (B : Base w g xs CS RL PD PO AO ys) : (xs.map fun p => p.2.num).Nodup := by
  refine List.pairwise_iff_getElem.mpr fun i j hi hj hij => ?_
  simp only [List.length_map] at hi hj
  simp only [List.getElem_map]
  exact B.nums (List.getElem?_eq_getElem hi) (List.getElem?_eq_getElem hj) (by omega)
theorem nodup_of_nums {xs : List (Addr × Rt)} (h : (xs.map fun p => p.2.num).Nodup) : xs.Nodup :=
  (List.pairwise_map.mp h).imp fun hab e => hab (by rw [e])
theorem eq_of_nums {xs : List (Addr × Rt)} (h : (xs.map fun p => p.2.num).Nodup) : ∀ p ∈ xs, ∀ q ∈ xs, p.2.num = q.2.num → p = q := by
  intro p hp q hq e
  obtain ⟨i, hi⟩ := List.mem_iff_getElem?.mp hp
  obtain ⟨j, hj⟩ := List.mem_iff_getElem?.mp hq
  have h1 : (xs.map fun p => p.2.num)[i]? = some p.2.num := by rw [List.getElem?_map, hi]; rfl
  have h2 : (xs.map fun p => p.2.num)[j]? = some p.2.num := by rw [List.getElem?_map, hj, e]; rfl
  have := (List.getElem?_inj (List.getElem?_eq_some_iff.mp h1).1 h).mp (h1.trans h2.symm)
  subst this
  rw [hi] at hj; cases hj; rfl
/-- what is better by its discriminator than the one chosen when a route is gone: that route at most -/
theorem alone_is {xs : List (Addr × Rt)} {gone q : Addr × Rt} (hnd : xs.Nodup) (hq : q ∈ firstLeft (xs.filter fun p => decide (p ≠ gone))) :
    ((xs.filter fun p => p.2.as == q.2.as).filter fun p => decide (p.2.med < q.2.med)) = [] ∨ ((xs.filter fun p => p.2.as == q.2.as).filter fun p => decide (p.2.med < q.2.med)) = [gone] := by
  have hq' := mem_firstLeft.mp hq
  have only : ∀ z, z ∈ ((xs.filter fun p => p.2.as == q.2.as).filter fun p => decide (p.2.med < q.2.med)) → z = gone := by
    intro z hz
    rw [List.mem_filter, List.mem_filter, beq_iff_eq, decide_eq_true_iff] at hz
    obtain ⟨⟨h1, h2⟩, h3⟩ := hz
    by_cases e : z = gone
    · exact e
    · exact absurd h3 (hq'.2 z (by simpa using ⟨h1, e⟩) h2)
  have hn : ((xs.filter fun p => p.2.as == q.2.as).filter fun p => decide (p.2.med < q.2.med)).Nodup := (hnd.sublist List.filter_sublist).sublist List.filter_sublist
  generalize ((xs.filter fun p => p.2.as == q.2.as).filter fun p => decide (p.2.med < q.2.med)) = l at *
  match l, hn, only with
  | [], _, _ => exact .inl rfl
  | [z], _, o => exact .inr (by rw [o z (.head _)])
  | y :: z :: r, hn, o => exact absurd (List.nodup_cons.mp hn).1 (by rw [o y (.head _), o z (.tail _ (.head _))]; simp)
theorem fewer_eq {xs : List (Addr × Rt)} {z : Addr × Rt} (h : (xs.map fun p => p.2.num).Nodup) (hz : z ∈ xs) : (xs.filter fun p => !(p.2.num == z.2.num)) = xs.filter fun p => decide (p ≠ z) := by
  refine List.filter_congr fun p hp => ?_
  by_cases e : p = z
  · subst e; simp
  · have : p.2.num ≠ z.2.num := fun e' => e (eq_of_nums h p hp z hz e')
    simp [e, this]
theorem fewer_pos {xs : List (Addr × Rt)} {z : Addr × Rt} (h : (xs.map fun p => p.2.num).Nodup) (hl : 2 ≤ xs.length) : 0 < (xs.filter fun p => decide (p ≠ z)).length := by
  have hn := nodup_of_nums h
  obtain ⟨p, hp, hne⟩ : ∃ p ∈ xs, p ≠ z := by
    match xs, hl, hn with
    | a :: b :: r, _, hn =>
      by_cases e : a = z
      · subst e
        exact ⟨b, by simp, fun e => (List.nodup_cons.mp hn).1 (by simp [e])⟩
      · exact ⟨a, by simp, e⟩
  exact List.length_pos_of_mem (List.mem_filter.mpr ⟨hp, by simpa using hne⟩)
/-- a list that a call has left goes to the base -/
theorem leftBase {g h : Heap} {L PL a b c Lf CS : Addr} {m : Str → Option Value} {oP o1 o2 o3 : Obj} {v1 v2 v3 : Option Value} {spot : Nat} {ws : List (Addr × Rt)} (F : Fm g L h m [(PL, oP), (a, o1), (b, o2), (c, o3)])
    (hP : PoolObj oP CS spot) (d1 : o1.data = .cell v1) (d2 : o2.data = .cell v2) (d3 : o3.data = .cell v3) (hl : h.IsList Lf (vals ws).toArray) :
    ∃ g', Ext g g' ∧ Fm g' L h m [(PL, oP), (a, o1), (b, o2), (c, o3)] ∧ g'.IsList Lf (vals ws).toArray := by
  obtain ⟨g', x, F', k⟩ := F.rebase
  refine ⟨g', x, F', hl.at fun o ho => k Lf o ho ?_ ?_⟩
  · obtain ⟨oL, k1, k2, e1, e2⟩ := F.ns
    obtain ⟨o, e3, e4, n, e5⟩ := hl
    intro e
    rw [e, e1] at e3
    cases e3
    simp_all
  · obtain ⟨o, e3, e4, n, e5⟩ := hl
    intro hm
    simp only [List.map_cons, List.map_nil, List.mem_cons, List.not_mem_nil, or_false] at hm
    have ne : ∀ {a : Addr} {o' : Obj} {v : Option Value}, (a, o') ∈ [(PL, oP), (L, o1)] ++ [(a, o')] → h.get? a = some o' → o'.data = .cell v → Lf ≠ a := by
      intro a o' v _ hg hd e
      rw [← e, e3] at hg
      cases hg
      rw [e5] at hd; cases hd
    rcases hm with e | e | e | e
    · have h1 := (F.new _ (.head _)).1
      obtain ⟨_, n', t, hd⟩ := hP
      rw [← e, e3] at h1
      cases h1
      rw [e5] at hd
      injection hd with hd
      have hd := congrArg Array.toList hd
      simp only [vals] at hd
      match ws, hd with
      | [], hd => simp at hd
      | [_], hd => simp at hd
      | _ :: _ :: _, hd => simp at hd
    · exact ne (by simp) (F.new _ (.tail _ (.head _))).1 d1 e
    · exact ne (by simp) (F.new _ (.tail _ (.tail _ (.head _)))).1 d2 e
    · exact ne (by simp) (F.new _ (.tail _ (.tail _ (.tail _ (.head _))))).1 d3 e

section
variable {w : World} {A : Around} {s : Shared} {P : Flow → Shared → Prop}
theorem lawTold {name qual : Str} {params : Arguments} {body : List Stmt} {scope : Scope} {dV kV doc pm cdv ct oc : Value} {an od : Option Addr} {osl : Array (Option Value)} {rest : List Stmt}
    {g : Heap} {L : Addr} {m : Str → Option Value} {xs : List (Addr × Rt)} {CS PL RL PD PO AO TD SD : Addr} {ys : List Value} {oP o1 o2 o3 oT oS : Obj} {v3 : Option Value}
    (ho : (hd.heap_39 w.params).lookup 133 = some ⟨oc, od, .func (fnOf name qual params body scope dV kV doc pm an cdv ct), osl⟩) (hb : body.drop 5 = rest)
    (hdp : A.depth + 10 < recursionLimit) (hh : A.handled = none) (hu : A.units + 1000 < cLine)
    (B : Base w g xs CS RL PD PO AO ys) (F : Fm g L s.heap m [(SD, oS), (TD, oT), (PL, oP), (L + 1 + 1 + 1, o1), (L + 1 + 1, o2), (L + 1, o3)]) (hm : NamesAt m PL RL PD PO AO TD SD)
    (d3 : o3.data = .cell v3) (hT : TObj w g oT (Told false xs 0 0) 0) (hS : TObj w g oS (Told true xs 0 0) 0)
    (next : ∀ g' h' tk m' oT' oS' o3' v3', Ext g g' → Fm g' L h' m' [(SD, oS'), (TD, oT'), (PL, oP), (L + 1 + 1 + 1, o1), (L + 1 + 1, o2), (L + 1, o3')] → NamesAt m' PL RL PD PO AO TD SD → o3'.data = .cell v3' →
      TObj w g' oT' (Told false xs xs.length 0) (xs.length * 4) → TObj w g' oS' (Told true xs xs.length 0) (xs.length * 4) →
      wpAny (model PR w) (A.deeper (envX qual scope L 133 cdv (cellsFrom (L + 1) scope.names []))) (execs (body.drop 6) (envX qual scope L 133 cdv (cellsFrom (L + 1) scope.names []))) P (fun _ _ => False) { s with heap := h', toks := tk }) :
    wpAny (model PR w) (A.deeper (envX qual scope L 133 cdv (cellsFrom (L + 1) scope.names []))) (execs rest (envX qual scope L 133 cdv (cellsFrom (L + 1) scope.names []))) P (fun _ _ => False) s := by
  revert next
  refine' useFn ho ?k ?_
  case k => k_is
  intro e1 e2 e3 e4 next
  subst e1 e2 e3 e4
  subst hb
  clear ho
  simp only [List.drop_succ_cons, List.drop_zero] at next ⊢
  have C := B.C
  obtain ⟨m1, m2, m3, m4, m5, m6, m7⟩ := id hm
  refine wpAny_execs_cons ?_
  refine wpAny_For ?_
  walk_at "mes"
  refine iterEnum (A := A.deeper _) (xs := vals xs) hh F B.list (fun i g m news => ∃ oT oS o3 v3, news = [(SD, oS), (TD, oT), (PL, oP), (L + 1 + 1 + 1, o1), (L + 1 + 1, o2), (L + 1, o3)] ∧ o3.data = .cell v3 ∧
      TObj w g oT (Told false xs i 0) (i * 4) ∧ TObj w g oS (Told true xs i 0) (i * 4) ∧ NamesAt m PL RL PD PO AO TD SD)
      ⟨_, _, _, _, rfl, d3, by rw [Nat.zero_mul]; exact hT, by rw [Nat.zero_mul]; exact hS, hm⟩ ?_ ?_
  · clear F hm hT hS d3 m1 m2 m3 m4 m5 m6 m7
    rintro i hi v g₁ m₁ news₁ own h tk ⟨T, tt, x, rfl, hx, hTu⟩ ⟨oT, oS, o3, v3, rfl, d3, hT, hS, hm⟩ x₁ F₁
    obtain ⟨p, hp, rfl⟩ := vals_get hx
    clear hx
    replace B := B.mono x₁
    replace C := B.C
    obtain ⟨m1, m2, m3, m4, m5, m6, m7⟩ := id hm
    refine asgTup2 (A := A.deeper _) hh F₁ hTu rfl rfl rfl rfl fun h₂ tk₂ F₂ => ?_
    clear F₁
    refine hideQ fun R₁ hR₁ => ?_
    refine wpAny_execs_cons ?_
    refine wpAny_For ?_
    walk_at "mes"
    refine iterEnum (A := A.deeper _) (xs := vals xs) hh F₂ B.list (fun j g m news => ∃ oT oS o3 v3 ti, news = own ++ [(SD, oS), (TD, oT), (PL, oP), (L + 1 + 1 + 1, o1), (L + 1 + 1, o2), (L + 1, o3)] ∧ o3.data = .cell v3 ∧
      TObj w g oT (Told false xs i j) (i * 4 + j) ∧ TObj w g oS (Told true xs i j) (i * 4 + j) ∧ NamesAt m PL RL PD PO AO TD SD ∧ m "at" = some (.int i ti) ∧ m "one" = some (.ref p.1))
      ⟨_, _, _, _, _, rfl, d3, hT, hS, ⟨m1, m2, m3, m4, m5, m6, m7⟩, rfl, rfl⟩ ?_ ?_
    · clear F₂ hm hT hS d3 m1 m2 m3 m4 m5 m6 m7
      rintro j hj v g₂ m₂ news₂ own' h₃ tk₃ ⟨T', tu, y, rfl, hy, hTv⟩ ⟨oT, oS, o3, v3, ti, rfl, d3, hT, hS, hm, m8, m9⟩ x₂ F₃
      obtain ⟨q, hq, rfl⟩ := vals_get hy
      clear hy
      replace B := B.mono x₂
      replace C := B.C
      obtain ⟨m1, m2, m3, m4, m5, m6, m7⟩ := id hm
      have hi' : i < 4 := by have := B.len; rw [vals_len] at hi; omega
      have hj' : j < 4 := by have := B.len; rw [vals_len] at hj; omega
      refine asgTupCL (A := A.deeper _) hh F₃ hTv rfl rfl rfl rfl (.app (.app (.tail (.tail (.tail (.tail (.tail .head))))) own) own') d3 rfl fun h₄ tk₄ o3' d3' F₄ => ?_
      clear F₃ d3
      refine hideQ fun R hR => ?_
      walk_at "mes"
      by_cases hij : i = j
      · rw [if_neg (by simp [hij])]
        walk_at "mes"
        subst hij
        refine hR _ _ ?_
        exact ⟨g₂, _, _, _, _, rfl, Ext.refl _, F₄, oT, oS, o3', _, ti, rfl, d3', hT.weak (by omega) fun _ _ _ h => h.skip, hS.weak (by omega) fun _ _ _ h => h.skip, ⟨m1, m2, m3, m4, m5, m6, m7⟩, m8, m9⟩
      rw [if_pos (by simp; omega)]
      have hpm := List.mem_of_getElem? hp
      have hqm := List.mem_of_getElem? hq
      walk_at "mes"
      refine wpAny_Assign_Subscript ?_
      walk_at "mes"
      rename_i D h₅ _ _ F₅
      refine best_of (A := A.deeper _) (xs := [p, q]) (b := false) (F₅.cx C) (by show A.depth + 1 + 3 < _; omega) hh (F₅.listIn (.head _)) (fun z hz => by
          rcases List.mem_cons.mp hz with rfl | hz
          · exact (B.R _ hpm).mono F₅.keep
          · rw [List.mem_singleton.mp hz]; exact (B.R _ hqm).mono F₅.keep)
        (fun z hz => by
          rcases List.mem_cons.mp hz with rfl | hz
          · exact (B.P _ hpm).mono F₅.keep
          · rw [List.mem_singleton.mp hz]; exact (B.P _ hqm).mono F₅.keep) (B.O0.mono F₅.keep) (by simp) (by simp) fun r rest h₆ tk₆ hr x₆ => ?_
      have F₆ := (F₅.ext x₆).tail
      clear F₄ F₅
      walk_at "mes"
      refine routeEq (A := A.deeper _) B.N (B.R.mono F₆.keep) (by rcases pair_mem hr with e | e <;> rw [e] <;> assumption) hpm (by show A.units + 3 + 72 < _; omega) ?_
      rw [pairB_of hr]
      walk_at "mes"
      rename_i K₁ h₇ _ _ F₇
      clear F₆
      refine setT (A := A.deeper _) (by show A.units + 3 + 1 < _; omega) F₇ (.app (.app (.tail .head) own) own') hT (by rw [sizeLine_eq]; omega) fun g₃ h₈ tk₈ oT' x₈ hT' F₈ => ?_
      clear F₇
      replace hT' : TObj w g₃ oT' (Told false xs i (j + 1)) (i * 4 + j + 1) := hT'.weak (Nat.le_refl _) fun _ _ _ h => h.put hp hq
      replace hS := hS.mono x₈
      replace B := B.mono x₈
      replace C := B.C
      clear hT
      walk_at "mes"
      refine wpAny_Assign_Subscript ?_
      walk_at "mes"
      rename_i D' h₉ _ _ F₉
      clear F₈
      refine best_of (A := A.deeper _) (xs := [p, q]) (b := true) (F₉.cx C) (by show A.depth + 1 + 3 < _; omega) hh (F₉.listIn (.head _)) (fun z hz => by
          rcases List.mem_cons.mp hz with rfl | hz
          · exact (B.R _ hpm).mono F₉.keep
          · rw [List.mem_singleton.mp hz]; exact (B.R _ hqm).mono F₉.keep)
        (fun z hz => by
          rcases List.mem_cons.mp hz with rfl | hz
          · exact (B.P _ hpm).mono F₉.keep
          · rw [List.mem_singleton.mp hz]; exact (B.P _ hqm).mono F₉.keep) (B.O1.mono F₉.keep) (by simp) (by simp) fun r' rest' h₁₀ tk₁₀ hr' x₁₀ => ?_
      have F₁₀ := (F₉.ext x₁₀).tail
      clear F₉
      walk_at "mes"
      refine routeEq (A := A.deeper _) B.N (B.R.mono F₁₀.keep) (by rcases pair_mem hr' with e | e <;> rw [e] <;> assumption) hpm (by show A.units + 3 + 72 < _; omega) ?_
      rw [pairB_of hr']
      walk_at "mes"
      rename_i K₂ h₁₁ _ _ F₁₁
      clear F₁₀
      refine setT (A := A.deeper _) (by show A.units + 3 + 1 < _; omega) F₁₁ (.app (.app .head own) own') hS (by rw [sizeLine_eq]; omega) fun g₄ h₁₂ tk₁₂ oS' x₁₂ hS' F₁₂ => ?_
      clear F₁₁
      replace hS' : TObj w g₄ oS' (Told true xs i (j + 1)) (i * 4 + j + 1) := hS'.weak (Nat.le_refl _) fun _ _ _ h => h.put hp hq
      replace hT' := hT'.mono x₁₂
      replace B := B.mono x₁₂
      replace C := B.C
      clear hS
      walk_at "mes"
      rename_i K₃ h₁₃ _ _ F₁₃
      refine getT (A := A.deeper _) (b := pairB false p q) (by show A.units + 3 + 1 < _; omega) F₁₃ (.tail _ (At.mem (.app (.app (.tail .head) own) own'))) hT' (F₁₃.tupIn (.head _)) ⟨.inr ⟨rfl, Nat.lt_succ_self _⟩, hij, p, q, hp, hq, rfl⟩ ?_
      replace F₁₃ := F₁₃.tail
      clear F₁₂
      walk_at "mes"
      refine law_better (A := A.deeper _) (F₁₃.cx C) (by show A.depth + 1 + 1 < _; omega) hh (by show A.units + 3 + 100 < _; omega) ((B.R _ hpm).mono F₁₃.keep) ((B.R _ hqm).mono F₁₃.keep) fun h₁₄ tk₁₄ x₁₄ => ?_
      have F₁₄ := F₁₃.ext x₁₄
      clear F₁₃
      refine neBB ?_
      rw [pairB_false (B.nums hp hq hij), beq_self_eq_true]
      walk_at "mes"
      refine hR _ _ ?_
      exact ⟨g₄, _, _, _, _, rfl, x₈.trans x₁₂, F₁₄, oT', oS', o3', _, ti, rfl, d3', hT', hS', ⟨m1, m2, m3, m4, m5, m6, m7⟩, m8, m9⟩
    · rintro g₂ m₂ news₂ h₃ tk₃ ⟨oT, oS, o3, v3, ti, rfl, d3, hT, hS, hm, m8, m9⟩ x₂ F₃
      dsimp only
      walk_at "mes"
      rw [vals_len] at hT hS
      have hl := B.len
      refine hR₁ _ _ ?_
      exact ⟨g₂, _, _, _, _, rfl, x₂, F₃, oT, oS, o3, v3, rfl, d3, hT.weak (by omega) fun _ _ _ h => h.row, hS.weak (by omega) fun _ _ _ h => h.row, hm⟩
  · rintro g₁ m₁ news₁ h tk ⟨oT, oS, o3, v3, rfl, d3, hT, hS, hm⟩ x₁ F₁
    rw [vals_len] at hT hS
    exact next g₁ h tk m₁ oT oS o3 v3 x₁ F₁ hm d3 hT hS
end

theorem vitem {xs : List (Addr × Rt)} {i : Nat} {p : Addr × Rt} (h : xs[i]? = some p) : (vals xs)[((i : Int)).toNat]? = some (.ref p.1) := by
  rw [Int.toNat_natCast]; unfold vals; rw [List.getElem?_map, h]; rfl
theorem rangeSmall : ∀ n : Nat, n ≤ 4 → Builtin.Range.small 0 (0 + (n : Int)) 1 = true
  | 0, _ | 1, _ | 2, _ | 3, _ | 4, _ => by rfl
section
variable {w : World} {A : Around} {s : Shared} {P : Flow → Shared → Prop}
theorem lawRound {name qual : Str} {params : Arguments} {body : List Stmt} {scope : Scope} {dV kV doc pm cdv ct oc : Value} {an od : Option Addr} {osl : Array (Option Value)}
    {g : Heap} {L : Addr} {m : Str → Option Value} {xs : List (Addr × Rt)} {CS PL RL PD PO AO TD SD : Addr} {ys : List Value} {oP o1 o2 o3 oT oS : Obj} {v3 : Option Value}
    (ho : (hd.heap_39 w.params).lookup 133 = some ⟨oc, od, .func (fnOf name qual params body scope dV kV doc pm an cdv ct), osl⟩)
    (hdp : A.depth + 10 < recursionLimit) (hh : A.handled = none) (hu : A.units + 1000 < cLine)
    (B : Base w g xs CS RL PD PO AO ys) (F : Fm g L s.heap m [(SD, oS), (TD, oT), (PL, oP), (L + 1 + 1 + 1, o1), (L + 1 + 1, o2), (L + 1, o3)]) (hm : NamesAt m PL RL PD PO AO TD SD)
    (d3 : o3.data = .cell v3) (hT : TObj w g oT (Told false xs xs.length 0) (xs.length * 4)) (hS : TObj w g oS (Told true xs xs.length 0) (xs.length * 4))
    (next : ∀ g' h' tk m' o3' v3', Ext g g' → Fm g' L h' m' [(SD, oS), (TD, oT), (PL, oP), (L + 1 + 1 + 1, o1), (L + 1 + 1, o2), (L + 1, o3')] → NamesAt m' PL RL PD PO AO TD SD → o3'.data = .cell v3' →
      wpAny (model PR w) (A.deeper (envX qual scope L 133 cdv (cellsFrom (L + 1) scope.names []))) (execs (body.drop 7) (envX qual scope L 133 cdv (cellsFrom (L + 1) scope.names []))) P (fun _ _ => False) { s with heap := h', toks := tk }) :
    wpAny (model PR w) (A.deeper (envX qual scope L 133 cdv (cellsFrom (L + 1) scope.names []))) (execs (body.drop 6) (envX qual scope L 133 cdv (cellsFrom (L + 1) scope.names []))) P (fun _ _ => False) s := by
  revert next
  refine' useFn ho ?k ?_
  case k => k_is
  intro e1 e2 e3 e4 next
  subst e1 e2 e3 e4
  clear ho
  simp only [List.drop_succ_cons, List.drop_zero] at next ⊢
  have C := B.C
  have hlen := B.len
  obtain ⟨m1, m2, m3, m4, m5, m6, m7⟩ := id hm
  refine wpAny_execs_cons ?_
  refine wpAny_For ?_
  walk_at "mes"
  refine call_len_list (items := (vals xs).toArray) (F.list B.list) (by rw [List.size_toArray, vals_len]; omega) ?_
  walk_at "mes"
  refine range1Fm F fun r h₁ tk₁ u1 u2 u3 hr F₁ => ?_
  clear F
  rw [List.size_toArray, vals_len, show (xs.length : Int) = 0 + (xs.length : Int) by omega] at hr
  refine iterRange (A := A.deeper _) hh F₁ hr (rangeSmall _ (by omega)) (fun i g m news => ∃ o3 v3, news = [(SD, oS), (TD, oT), (PL, oP), (L + 1 + 1 + 1, o1), (L + 1 + 1, o2), (L + 1, o3)] ∧ o3.data = .cell v3 ∧ NamesAt m PL RL PD PO AO TD SD)
    ⟨_, _, rfl, d3, hm⟩ ?_ ?_
  · clear F₁ hm d3 m1 m2 m3 m4 m5 m6 m7 hr
    rintro i hi v g₁ m₁ news₁ own h tk ⟨ti, hv⟩ ⟨o3, v3, rfl, d3, m1, m2, m3, m4, m5, m6, m7⟩ x₁ F₁
    rw [Int.zero_add] at hv
    subst hv
    replace B := B.mono x₁
    replace C := B.C
    replace hT := hT.mono x₁
    replace hS := hS.mono x₁
    refine PySem.wpAny_assign_Name ?_
    refine stL F₁ rfl rfl rfl fun h₂ F₂ => ?_
    refine hideQ fun R₁ hR₁ => ?_
    walk_at "mes"
    refine wpAny_For ?_
    walk_at "mes"
    clear F₁
    refine range1Fm F₂ fun r h₃ tk₃ u1 u2 u3 hr F₃ => ?_
    clear F₂
    rw [show (i : Int) = 0 + (i : Int) by omega] at hr
    refine iterRange (A := A.deeper _) hh F₃ hr (rangeSmall i (by omega))
      (fun j g m news => ∃ o3 v3, news = own ++ [(SD, oS), (TD, oT), (PL, oP), (L + 1 + 1 + 1, o1), (L + 1 + 1, o2), (L + 1, o3)] ∧ o3.data = .cell v3 ∧ NamesAt m PL RL PD PO AO TD SD ∧ m "at" = some (.int i ti))
      ⟨_, _, rfl, d3, ⟨m1, m2, m3, m4, m5, m6, m7⟩, rfl⟩ ?_ ?_
    · clear F₃ d3 m1 m2 m3 m4 m5 m6 m7 hr
      rintro j hj v g₂ m₂ news₂ own' h₃ tk₃ ⟨tj, hv⟩ ⟨o3, v3, rfl, d3, ⟨m1, m2, m3, m4, m5, m6, m7⟩, m8⟩ x₂ F₃
      rw [Int.zero_add] at hv
      subst hv
      replace B := B.mono x₂
      replace C := B.C
      replace hT := hT.mono x₂
      replace hS := hS.mono x₂
      refine PySem.wpAny_assign_Name ?_
      refine stC F₃ rfl rfl rfl (.app (.app (.tail (.tail (.tail (.tail (.tail .head))))) own) own') d3 fun h₄ o3' d3' F₄ => ?_
      clear F₃ d3
      refine hideQ fun R₂ hR₂ => ?_
      walk_at "mes"
      refine wpAny_For ?_
      walk_at "mes"
      refine range1Fm F₄ fun r h₅ tk₅ u1 u2 u3 hr F₅ => ?_
      clear F₄
      rw [show (j : Int) = 0 + (j : Int) by omega] at hr
      refine iterRange (A := A.deeper _) hh F₅ hr (rangeSmall j (by omega))
        (fun _ g m news => news = own' ++ (own ++ [(SD, oS), (TD, oT), (PL, oP), (L + 1 + 1 + 1, o1), (L + 1 + 1, o2), (L + 1, o3')]) ∧ NamesAt m PL RL PD PO AO TD SD ∧ m "at" = some (.int i ti))
        ⟨rfl, ⟨m1, m2, m3, m4, m5, m6, m7⟩, m8⟩ ?_ ?_
      · clear F₅ m1 m2 m3 m4 m5 m6 m7 m8 hr
        rintro k hk v g₃ m₃ news₃ own'' h₅ tk₅ ⟨tl, hv⟩ ⟨rfl, ⟨m1, m2, m3, m4, m5, m6, m7⟩, m8⟩ x₃ F₅
        rw [Int.zero_add] at hv
        subst hv
        replace B := B.mono x₃
        replace C := B.C
        replace hT := hT.mono x₃
        replace hS := hS.mono x₃
        obtain ⟨p, hp⟩ : ∃ p, xs[i]? = some p := ⟨_, List.getElem?_eq_getElem hi⟩
        obtain ⟨q, hq⟩ : ∃ q, xs[j]? = some q := ⟨_, List.getElem?_eq_getElem (by omega)⟩
        obtain ⟨r, hr⟩ : ∃ r, xs[k]? = some r := ⟨_, List.getElem?_eq_getElem (by omega)⟩
        have t12 : Told false xs xs.length 0 i j (pairB false p q) := ⟨.inl hi, by omega, p, q, hp, hq, rfl⟩
        have t23 : Told false xs xs.length 0 j k (pairB false q r) := ⟨.inl (by omega), by omega, q, r, hq, hr, rfl⟩
        have t31 : Told false xs xs.length 0 k i (pairB false r p) := ⟨.inl (by omega), by omega, r, p, hr, hp, rfl⟩
        have s12 : Told true xs xs.length 0 i j (pairB true p q) := ⟨.inl hi, by omega, p, q, hp, hq, rfl⟩
        have s23 : Told true xs xs.length 0 j k (pairB true q r) := ⟨.inl (by omega), by omega, q, r, hq, hr, rfl⟩
        have s31 : Told true xs xs.length 0 k i (pairB true r p) := ⟨.inl (by omega), by omega, r, p, hr, hp, rfl⟩
        refine PySem.wpAny_assign_Name ?_
        refine stL F₅ rfl rfl rfl fun h₆ F₆ => ?_
        clear F₅
        refine hideQ fun R₃ hR₃ => ?_
        refine wpAny_execs_cons ?_
        refine wpAny_Assign_Name ?_
        refine wpAny_mono (Q := fun v s' => v = .bool ((pairB false p q == pairB false q r) && (pairB false q r == pairB false r p)) ∧ ∃ h' tk', s' = { s with heap := h', toks := tk' } ∧
          Fm g₃ L h' (fun y => if y = "last" then some (Value.int k tl) else m₃ y) (own'' ++ (own' ++ (own ++ [(SD, oS), (TD, oT), (PL, oP), (L + 1 + 1 + 1, o1), (L + 1 + 1, o2), (L + 1, o3')])))) ?_ (fun v s' hv => ?_) fun _ _ q => q
        · walk_at "mes"
          rename_i F₇
          clear F₆
          refine getT (A := A.deeper _) (by show A.units + 3 + 1 < _; omega) F₇ (.tail _ (At.mem (.app (.app (.app (.tail .head) own) own') own''))) hT (F₇.tupIn (.head _)) t12 ?_
          replace F₇ := F₇.tail
          walk_at "mes"
          rename_i F₈
          clear F₇
          refine getT (A := A.deeper _) (by show A.units + 3 + 1 < _; omega) F₈ (.tail _ (At.mem (.app (.app (.app (.tail .head) own) own') own''))) hT (F₈.tupIn (.head _)) t23 ?_
          replace F₈ := F₈.tail
          walk_at "mes"
          refine eqBB ?_
          walk_at "mes"
          by_cases hc : (pairB false p q == pairB false q r) = true
          · rw [if_pos hc]
            walk_at "mes"
            rename_i F₉
            clear F₈
            refine getT (A := A.deeper _) (by show A.units + 3 + 1 < _; omega) F₉ (.tail _ (At.mem (.app (.app (.app (.tail .head) own) own') own''))) hT (F₉.tupIn (.head _)) t31 ?_
            replace F₉ := F₉.tail
            walk_at "mes"
            refine eqBB ?_
            exact ⟨by rw [hc, Bool.true_and], _, _, rfl, F₉⟩
          · rw [if_neg hc]
            exact ⟨by rw [(Bool.not_eq_true _).mp hc, Bool.false_and], _, _, rfl, F₈⟩
        obtain ⟨rfl, h₇, tk₇, rfl, F₇⟩ := hv
        clear F₆
        have hpm := List.mem_of_getElem? hp
        have hqm := List.mem_of_getElem? hq
        have hrm := List.mem_of_getElem? hr
        have n12 := B.nums hp hq (by omega)
        have n23 := B.nums hq hr (by omega)
        have n31 := B.nums hr hp (by omega)
        rw [pairB_false n12, pairB_false n23, pairB_false n31, round_eq (B.rtIn hp) (B.rtIn hq) (B.rtIn hr) n12 n23 n31]
        walk_at "mes"
        rename_i F₈
        clear F₇
        refine litem (x := .ref p.1) (F₈.list B.list) (by omega) (by omega) (vitem hp) ?_
        walk_at "mes"
        refine litem (x := .ref q.1) (F₈.list B.list) (by omega) (by omega) (vitem hq) ?_
        walk_at "mes"
        refine litem (x := .ref r.1) (F₈.list B.list) (by omega) (by omega) (vitem hr) ?_
        walk_at "mes"
        refine law_goes_round (A := A.deeper _) (a := p) (b := q) (c := r) (F₈.cx C) (by show A.depth + 1 + 1 < _; omega) hh (by show A.units + 3 + 100 < _; omega) ((B.R _ hpm).mono F₈.keep) ((B.R _ hqm).mono F₈.keep) ((B.R _ hrm).mono F₈.keep) fun h₉ tk₉ x₉ => ?_
        have F₉ := F₈.ext x₉
        clear F₈
        refine neBB ?_
        rw [beq_self_eq_true]
        walk_at "mes"
        rename_i F₁₀
        clear F₉
        refine getT (A := A.deeper _) (by show A.units + 3 + 1 < _; omega) F₁₀ (.tail _ (At.mem (.app (.app (.app .head own) own') own''))) hS (F₁₀.tupIn (.head _)) s12 ?_
        replace F₁₀ := F₁₀.tail
        walk_at "mes"
        rename_i F₁₁
        clear F₁₀
        refine getT (A := A.deeper _) (by show A.units + 3 + 1 < _; omega) F₁₁ (.tail _ (At.mem (.app (.app (.app .head own) own') own''))) hS (F₁₁.tupIn (.head _)) s23 ?_
        replace F₁₁ := F₁₁.tail
        walk_at "mes"
        refine eqBB ?_
        walk_at "mes"
        have hno := strict_none n12 n23 n31
        rw [← pairB_true n12, ← pairB_true n23, ← pairB_true n31] at hno
        by_cases hc : (pairB true p q == pairB true q r) = true
        · rw [if_pos hc]
          rw [hc, Bool.true_and] at hno
          walk_at "mes"
          rename_i F₁₂
          clear F₁₁
          refine getT (A := A.deeper _) (by show A.units + 3 + 1 < _; omega) F₁₂ (.tail _ (At.mem (.app (.app (.app .head own) own') own''))) hS (F₁₂.tupIn (.head _)) s31 ?_
          replace F₁₂ := F₁₂.tail
          walk_at "mes"
          refine eqBB ?_
          rw [hno]
          walk_at "mes"
          refine hR₃ _ _ ?_
          exact ⟨g₃, _, _, _, _, rfl, Ext.refl _, F₁₂, rfl, ⟨m1, m2, m3, m4, m5, m6, m7⟩, m8⟩
        · rw [if_neg hc]
          walk_at "mes"
          refine hR₃ _ _ ?_
          exact ⟨g₃, _, _, _, _, rfl, Ext.refl _, F₁₁, rfl, ⟨m1, m2, m3, m4, m5, m6, m7⟩, m8⟩
      · rintro g₃ m₃ news₃ h₆ tk₆ ⟨rfl, hm, m8⟩ x₃ F₆
        dsimp only
        walk_at "mes"
        refine hR₂ _ _ ?_
        exact ⟨g₃, _, _, _, _, rfl, x₃, F₆, o3', _, rfl, d3', hm, m8⟩
    · rintro g₂ m₂ news₂ h₃ tk₃ ⟨o3, v3, rfl, d3, hm, m8⟩ x₂ F₃
      dsimp only
      walk_at "mes"
      refine hR₁ _ _ ?_
      exact ⟨g₂, _, _, _, _, rfl, x₂, F₃, o3, v3, rfl, d3, hm⟩
  · rintro g₁ m₁ news₁ h tk ⟨o3, v3, rfl, d3, hm⟩ x₁ F₁
    exact next g₁ h tk m₁ o3 v3 x₁ F₁ hm d3
end

section
variable {w : World} {A : Around} {s : Shared} {P : Flow → Shared → Prop}
theorem lawEnd {name qual : Str} {params : Arguments} {body : List Stmt} {scope : Scope} {dV kV doc pm cdv ct oc : Value} {an od : Option Addr} {osl : Array (Option Value)}
    {g : Heap} {L : Addr} {m : Str → Option Value} {xs : List (Addr × Rt)} {CS PL RL PD PO AO TD SD : Addr} {ys : List Value} {zs : List Int} {oP o1 o2 o3 oT oS : Obj} {v1 v2 v3 : Option Value} {spot : Nat}
    (ho : (hd.heap_39 w.params).lookup 133 = some ⟨oc, od, .func (fnOf name qual params body scope dV kV doc pm an cdv ct), osl⟩)
    (hdp : A.depth + 10 < recursionLimit) (hh : A.handled = none) (hu : A.units + 1000 < cLine)
    (B : Base w g xs CS RL PD PO AO ys) (F : Fm g L s.heap m [(SD, oS), (TD, oT), (PL, oP), (L + 1 + 1 + 1, o1), (L + 1 + 1, o2), (L + 1, o3)]) (hm : NamesAt m PL RL PD PO AO TD SD)
    (d1 : o1.data = .cell v1) (d2 : o2.data = .cell v2) (d3 : o3.data = .cell v3) (hP : PoolObj oP CS spot) (hsp : spot ≤ 1000) (hZ : IntsAre ys zs) (hzl : zs.length ≤ 1000)
    (hQ : ∀ h' tk, Ext g h' → P (.ret (.bool true)) { s with heap := h', toks := tk }) :
    wpAny (model PR w) (A.deeper (envX qual scope L 133 cdv (cellsFrom (L + 1) scope.names []))) (execs (body.drop 7) (envX qual scope L 133 cdv (cellsFrom (L + 1) scope.names []))) P (fun _ _ => False) s := by
  refine' useFn ho ?k ?_
  case k => k_is
  intro e1 e2 e3 e4
  subst e1 e2 e3 e4
  clear ho
  simp only [List.drop_succ_cons, List.drop_zero]
  have C := B.C
  have hlen := B.len
  have hnn := B.nodupNums
  replace F := F.tail.tail
  obtain ⟨m1, m2, m3, m4, m5, m6, m7⟩ := id hm
  walk_at "mes"
  refine best_of (A := A.deeper _) (xs := xs) (b := false) (F.cx C) (by show A.depth + 1 + 3 < _; omega) hh (F.list B.list) (B.R.mono F.keep) (fun p hp => (B.P p hp).mono F.keep) (B.O0.mono F.keep) (by omega) (by omega) fun b rest h₁ tk₁ hb x₁ => ?_
  have F₁ := F.ext x₁
  clear F
  walk_at "mes"
  rename_i h₂ F₂
  clear F₁
  refine PyProof.Rows.Assign_Tuple ?_
  walk_at "mes"
  refine law_first (A := A.deeper _) (xs := xs) (F₂.cx C) (by show A.depth + 1 + 1 < _; omega) hh (by show A.units + 3 + 200 < _; omega) (F₂.list B.list) (B.R.mono F₂.keep) hnn (by omega) (firstLeft_pos (by omega)) fun T Lf i p t h₃ tk₃ hi hmin x₃ hT hLf => ?_
  have F₃ := F₂.ext x₃
  clear F₂
  obtain ⟨g₁, y₁, F₃', hLf'⟩ := leftBase F₃ hP d1 d2 d3 hLf
  clear F₃ hLf
  refine asgTupCC (A := A.deeper _) hh F₃' hT rfl rfl rfl (.tail (.tail (.tail .head))) d3 rfl rfl (fun _ => .tail (.tail .head)) d2 fun h₄ tk₄ o3' o2' d3' d2' F₄ => ?_
  clear F₃' hT d3 d2
  replace B := B.mono y₁
  replace C := B.C
  have hpx := firstLeft_sub p (List.mem_of_getElem? hi)
  have hbx := (mem_bestMeds.mp (best_spec hb).1).1
  have hbp : b = p := best_first (eq_of_nums hnn) hb (List.mem_of_getElem? hi) hmin
  subst hbp
  walk_at "mes"
  refine litem (x := .ref b.1) (F₄.list hLf') (by omega) (by have := (List.getElem?_eq_some_iff.mp hi).1; have := List.length_filter_le (fun p => (vals ((xs.filter fun q => q.2.as == p.2.as).filter fun q => decide (q.2.med < p.2.med))).isEmpty) xs; unfold firstLeft at *; omega) (vitem hi) ?_
  refine routeNe (A := A.deeper _) B.N (B.R.mono F₄.keep) hbx hbx (by show A.units + 3 + 72 < _; omega) ?_
  rw [beq_self_eq_true]
  walk_at "mes"
  refine call_len_list (items := (vals xs).toArray) (F₄.list B.list) (by rw [List.size_toArray, vals_len]; omega) ?_
  rw [List.size_toArray, vals_len]
  walk_at "mes"
  refine drawFm (A := A.deeper _) C F₄ .head hP (by show A.depth + 1 < _; omega) hh B.cs hZ hzl hsp (by omega) fun d td h₅ tk₅ oP' hd0 hd2 hP' F₅ => ?_
  clear F₄ hP
  obtain ⟨z, hz⟩ : ∃ z, xs[d.toNat]? = some z := ⟨_, List.getElem?_eq_getElem (by omega)⟩
  have hzx := List.mem_of_getElem? hz
  refine litem (x := .ref z.1) (F₅.list B.list) hd0 (by omega) (by unfold vals; rw [List.getElem?_map, hz]; rfl) ?_
  walk_at "mes"
  rename_i h₆ o1' d1' F₆
  clear F₅
  have hRL := B.list
  have hR := B.R
  have hsz : xs.length ≤ 1000 := by omega
  refine' asFilt (xs := xs) (fun q => !(q.2.num == z.2.num)) ?hh ?F ?hL ?hke ?hsrc ?hdb ?hv ?hl ?hR ?hsz ?hy ?hsw ?hclos ?hcell ?hnames ?hx ?hk ?hdb' ?_ ?_; (case hsrc => rfl); (case hsw => rfl); (((case hh => assumption); (case F => with_reducible assumption); (case hL => rfl); (case hke => rfl); (case hy => rfl); (case hdb => decide); (case hv => first | rfl | assumption); (case hclos => with_unfolding_all rfl); (case hcell => decide); (case hnames => decide); (case hl => (first | exact Fm.list (by with_reducible assumption) (by with_reducible assumption) | exact Fm.listIn (by with_reducible assumption) (by ((repeat (first | exact List.Mem.head _ | refine List.Mem.tail _ ?_ | refine List.mem_append_right _ ?_)))))); (case hR => assumption); (case hsz => omega); (case hx => rfl); (case hk => rfl); (case hdb' => decide)))
  · rintro a r Ca g₂ m₂ h₂ tk₂ led hp₂ x₂ hn R₂ hm₂ G
    have C₂ := C.keeps x₂
    have hgc : g₂.IsCell (L + 1 + 1 + 1) (some (.ref z.1)) := ⟨_, hn _ (.tail _ (.head _)), d1'⟩
    walk_at "mes"
    refine routeNe (p := (a, r)) (q := z) B.N ((hR.mono x₂).mono G.keep) hp₂ hzx (by show A.units + 3 + 72 < _; omega) ?_
    walk_at "mes"
    exact ⟨rfl, KeptX.same G⟩
  intro Df h₇ tk₇ kf hnf xf F₇
  rw [fewer_eq hnn hzx] at F₇
  obtain ⟨g₂, y₂, F₈, hDf⟩ := F₇.sink1
  clear F₆ F₇ hnf xf
  have hfl : g₂.IsList Df (vals (xs.filter fun p => decide (p ≠ z))).toArray := ⟨_, hDf, rfl, _, rfl⟩
  clear hDf
  replace B := B.mono y₂
  replace C := B.C
  have hfs : ∀ p ∈ xs.filter fun p => decide (p ≠ z), p ∈ xs := fun p hp => (List.mem_filter.mp hp).1
  have hflen := List.length_filter_le (fun p => decide (p ≠ z)) xs
  have hfpos := fewer_pos (z := z) hnn (by omega)
  have hfnn : ((xs.filter fun p => decide (p ≠ z)).map fun p => p.2.num).Nodup := hnn.sublist (List.filter_sublist.map _)
  generalize hfe : (xs.filter fun p => decide (p ≠ z)) = fw at *
  dsimp only
  refine wpAny_execs_cons ?_
  refine PyProof.Rows.Assign_Tuple ?_
  walk_at "mes"
  refine law_first (A := A.deeper _) (xs := fw) (F₈.cx C) (by show A.depth + 1 + 1 < _; omega) hh (by show A.units + 3 + 200 < _; omega) (F₈.list hfl) ((B.R.sub hfs).mono F₈.keep) hfnn (by omega) (firstLeft_pos hfpos) fun T' Lg i' q t' h₉ tk₉ hi' hmin' x₉ hT' hLg => ?_
  have F₉ := F₈.ext x₉
  clear F₈
  obtain ⟨g₃, y₃, F₉', hLg'⟩ := leftBase F₉ hP' d1' d2' d3' hLg
  clear F₉ hLg
  refine asgTupCC (A := A.deeper _) hh F₉' hT' rfl rfl rfl (.tail (.tail (.tail .head))) d3' rfl rfl (fun _ => .tail (.tail .head)) d2' fun h₁₀ tk₁₀ o3'' o2'' d3'' d2'' F₁₀ => ?_
  clear F₉' hT' d3' d2'
  replace B := B.mono y₃
  replace C := B.C
  have hfl := hfl.at fun _ => y₃ _ _
  have hqf := firstLeft_sub q (List.mem_of_getElem? hi')
  have hqx := hfs q hqf
  walk_at "mes"
  replace hRL := B.list
  replace hR := B.R
  have hq4 : i' < 1000 := by have := (List.getElem?_eq_some_iff.mp hi').1; have := List.length_filter_le (fun p => (vals ((fw.filter fun q => q.2.as == p.2.as).filter fun q => decide (q.2.med < p.2.med))).isEmpty) fw; unfold firstLeft at *; omega
  refine' asFilt (xs := xs) (fun r => r.2.as == q.2.as) ?hh ?F ?hL ?hke ?hsrc ?hdb ?hv ?hl ?hR ?hsz ?hy ?hsw ?hclos ?hcell ?hnames ?hx ?hk ?hdb' ?_ ?_; (case hsrc => rfl); (case hsw => rfl); (((case hh => assumption); (case F => with_reducible assumption); (case hL => rfl); (case hke => rfl); (case hy => rfl); (case hdb => decide); (case hv => first | rfl | assumption); (case hclos => with_unfolding_all rfl); (case hcell => decide); (case hnames => decide); (case hl => (first | exact Fm.list (by with_reducible assumption) (by with_reducible assumption) | exact Fm.listIn (by with_reducible assumption) (by ((repeat (first | exact List.Mem.head _ | refine List.Mem.tail _ ?_ | refine List.mem_append_right _ ?_)))))); (case hR => assumption); (case hsz => omega); (case hx => rfl); (case hk => rfl); (case hdb' => decide)))
  · rintro a r Ca g₄ m₄ h₄ tk₄ led hp₄ x₄ hn R₄ hm₄ G
    have C₄ := C.keeps x₄
    have hlc : g₄.IsCell (L + 1 + 1) (some (.ref Lg)) := ⟨_, hn _ (.tail _ (.tail _ (.head _))), d2''⟩
    have hsc : g₄.IsCell (L + 1) (some (.int (i' : Int) t')) := ⟨_, hn _ (.tail _ (.tail _ (.tail _ (.head _)))), d3''⟩
    obtain ⟨n8, dd, pv, t, R₄⟩ := R₄
    obtain ⟨n8', dd', pv', t'', R₅⟩ := (hR q hqx).mono x₄
    have h1 := R₄.tup
    have h2 := R₄.attrs
    have h3 := R₅.tup
    have h4 := R₅.attrs
    walk_at "mes"
    refine litem (x := .ref q.1) (G.list (hLg'.at fun _ => x₄ _ _)) (by omega) (by omega) (vitem hi') ?_
    walk_at "mes"
    refine pathEq (R₄.path.mono G.keep) (R₅.path.mono G.keep) (by show A.units + 3 + 64 < _; omega) ?_
    walk_at "mes"
    exact ⟨rfl, KeptX.same G⟩
  intro Dr h₁₁ tk₁₁ kr hnr xr F₁₁
  obtain ⟨g₄, y₄, F₁₂, hDr⟩ := F₁₁.sink1
  clear F₁₀ F₁₁ hnr xr
  have hrl : g₄.IsList Dr (vals (xs.filter fun r => r.2.as == q.2.as)).toArray := ⟨_, hDr, rfl, _, rfl⟩
  clear hDr
  replace B := B.mono y₄
  replace C := B.C
  replace hR := B.R
  replace hfl := hfl.at fun _ => y₄ _ _
  replace hLg' := hLg'.at fun _ => y₄ _ _
  have hR' : AreR w g₄ (xs.filter fun r => r.2.as == q.2.as) := hR.sub fun p hp => (List.mem_filter.mp hp).1
  have hsz' := Nat.le_trans (List.length_filter_le (fun r => r.2.as == q.2.as) xs) hsz
  dsimp only
  refine wpAny_execs_cons ?_
  refine' asFilt (xs := xs.filter fun r => r.2.as == q.2.as) (fun r => decide (r.2.med < q.2.med)) ?hh ?F ?hL ?hke ?hsrc ?hdb ?hv ?hl ?hR ?hsz ?hy ?hsw ?hclos ?hcell ?hnames ?hx ?hk ?hdb' ?_ ?_; (case hsrc => rfl); (case hsw => rfl); (((case hh => assumption); (case F => with_reducible assumption); (case hL => rfl); (case hke => rfl); (case hy => rfl); (case hdb => decide); (case hv => first | rfl | assumption); (case hclos => with_unfolding_all rfl); (case hcell => decide); (case hnames => decide); (case hl => (first | exact Fm.list (by with_reducible assumption) (by with_reducible assumption) | exact Fm.listIn (by with_reducible assumption) (by ((repeat (first | exact List.Mem.head _ | refine List.Mem.tail _ ?_ | refine List.mem_append_right _ ?_)))))); (case hR => assumption); (case hsz => omega); (case hx => rfl); (case hk => rfl); (case hdb' => decide)))
  · rintro a r Ca g₅ m₅ h₅ tk₅ led hp₅ x₅ hn R₅ hm₅ G
    have C₅ := C.keeps x₅
    have hlc : g₅.IsCell (L + 1 + 1) (some (.ref Lg)) := ⟨_, hn _ (.tail _ (.tail _ (.head _))), d2''⟩
    have hsc : g₅.IsCell (L + 1) (some (.int (i' : Int) t')) := ⟨_, hn _ (.tail _ (.tail _ (.tail _ (.head _)))), d3''⟩
    obtain ⟨n8, dd, pv, t, R₅⟩ := R₅
    obtain ⟨n8', dd', pv', t'', R₆⟩ := (hR q hqx).mono x₅
    have h1 := R₅.tup
    have h2 := R₅.attrs
    have h3 := R₆.tup
    have h4 := R₆.attrs
    walk_at "mes"
    refine litem (x := .ref q.1) (G.list (hLg'.at fun _ => x₅ _ _)) (by omega) (by omega) (vitem hi') ?_
    walk_at "mes"
    exact ⟨rfl, KeptX.same G⟩
  intro Da h₁₃ tk₁₃ ka hna xa F₁₃
  clear F₁₂ hna xa
  subst hfe
  have hq1 := List.mem_of_getElem? hi'
  have hal := alone_is (gone := z) (nodup_of_nums hnn) hq1
  generalize ha : ((xs.filter fun r => r.2.as == q.2.as).filter fun r => decide (r.2.med < q.2.med)) = al at *
  dsimp only
  walk_at "mes"
  refine routeEq (A := A.deeper _) B.N (B.R.mono F₁₃.keep) hbx hzx (by show A.units + 3 + 72 < _; omega) ?_
  by_cases hbz : b = z
  · rw [hbz, beq_self_eq_true]
    walk_at "mes"
    exact hQ _ _ (y₁.trans (y₂.trans (y₃.trans (y₄.trans F₁₃.keep))))
  have hbzn : (b.2.num == z.2.num) = false := beq_false_of_ne fun e => hbz (eq_of_nums hnn b hbx z hzx e)
  rw [hbzn]
  walk_at "mes"
  refine best_of (A := A.deeper _) (xs := xs.filter fun p => decide (p ≠ z)) (b := false) (F₁₃.cx C) (by show A.depth + 1 + 3 < _; omega) hh (F₁₃.list hfl) ((B.R.sub hfs).mono F₁₃.keep) (fun p hp => (B.P p (hfs p hp)).mono F₁₃.keep) (B.O0.mono F₁₃.keep) hfpos (by omega) fun r rest' h₁₄ tk₁₄ hr x₁₄ => ?_
  have F₁₄ := F₁₃.ext x₁₄
  clear F₁₃
  have hrq : r = q := best_first (eq_of_nums hfnn) hr hq1 hmin'
  subst hrq
  have hlaw := gone_law (nodup_of_nums hnn) hzx (List.mem_of_getElem? hi) hmin hbz hq1 hmin'
  rw [ha] at hlaw
  walk_at "mes"
  refine routeNe (A := A.deeper _) B.N (B.R.mono F₁₄.keep) hqx hbx (by show A.units + 3 + 72 < _; omega) ?_
  walk_at "mes"
  rename_i TL h₁₅ _ _ F₁₅
  refine eqOne (A := A.deeper _) (ws := al) (z := z) (F₁₅.listIn (.tail _ (.head _))) (F₁₅.listIn (.head _)) hal (by show A.units + 3 < _; omega) ?_
  walk_at "mes"
  refine eqBB ?_
  have hfin : ((!(r.2.num == b.2.num)) == decide (al = [z])) = true := by
    by_cases e : al = [z]
    · have hne := hlaw.mpr e
      rw [beq_false_of_ne fun e' => hne (eq_of_nums hnn r hqx b hbx e'), decide_eq_true e]; rfl
    · have he : r = b := Decidable.of_not_not fun h => e (hlaw.mp h)
      rw [he, beq_self_eq_true, decide_eq_false e]; rfl
  rw [hfin]
  walk_at "mes"
  exact hQ _ _ (y₁.trans (y₂.trans (y₃.trans (y₄.trans F₁₅.keep))))
end

section
variable {w : World} {A : Around} {s : Shared} {E : Value → Shared → Prop} {Q : Value → Shared → Prop}
theorem lawCall {sl : Addr} {vs : List Value} {ns : List Int} (C : Cx w s.heap) (hdp : A.depth + 10 < recursionLimit) (hh : A.handled = none) (hu : A.units + 1000 < cLine)
    (hL : s.heap.IsList sl vs.toArray) (hI : IntsAre vs ns) (hn : ns.length ≤ 63)
    (hQ : ∀ h' tk, Ext s.heap h' → Q (.bool true) { s with heap := h', toks := tk }) :
    wpAny (model PR w) A (call (.ref 133) [.ref sl]) Q E s := by
  refine' callC (binds := [("script", .ref sl)]) C ?k6 ?k7 (by omega) ?k9 ?kB ?c5 ?_ ?c2 ?c3 ?c4; (((case k6 => k_is); (case k7 => k_is); (case k9 => exact BindsTo.of_eq rfl); (case c5 => decide); (case kB => rfl); (case c2 => exact rfl); (case c3 => exact rfl); (case c4 => exact rfl)))
  intro L h₁ tk cells F Y
  obtain ⟨o1, o2, o3, rfl, d1, d2, d3⟩ := CellsAre.three Y
  clear Y
  replace d1 : o1.data = .cell none := d1
  replace d2 : o2.data = .cell none := d2
  replace d3 : o3.data = .cell none := d3
  walk_at "mes"
  refine' evInts C hh F hL hI (by rw [hI.length]; omega) rfl rfl rfl (by decide) rfl ?hs ?hclos ?hcell ?hnames ?hx ?hk ?_ ?_
  case hs => intro _; rfl
  case hclos => with_unfolding_all rfl
  case hcell => decide
  case hnames => decide
  case hx => rfl
  case hk => rfl
  · rintro n t C' g₁ m₁ h tk led x hm F₄
    have C₁ := C.keeps x
    walk_at "mes"
    exact call_int_int ⟨rfl, Kept.same F₄ trivial⟩
  intro CS h₂ tk₂ ys zs k hCn hZ hzl x₂ F₂
  obtain ⟨g, x₀, F₃, hCS⟩ := F₂.sink1
  have hcs : g.IsList CS ys.toArray := ⟨_, hCS, rfl, _, rfl⟩
  replace C := C.keeps x₀
  clear F F₂ x₂ hCn hCS
  walk_at "mes"
  rename_i PL _ _ _ _ _ _ RL h₃ _ _ F₄
  refine dict0Fm (F₄.cx C).nolimit F₄ fun PD h₄ hPDn hPD x₄ F₅ => ?_
  clear F₃ F₄
  walk_at "mes"
  rename_i TT h₅ _ _ F₆
  refine unpackFm F₆ (F₆.tupIn (.head _)) hh rfl fun h₆ F₇ x₇ => ?_
  replace F₇ := F₇.tail
  clear F₅ F₆
  refine assignInOrder_cons (bindName_ (stL F₇ rfl rfl rfl fun h₇ F₈ => ?_))
  refine assignInOrder_cons (bindName_ (stL F₈ rfl rfl rfl fun h₈ F₉ => ?_))
  refine assignInOrder_nil ?_
  clear F₇ F₈
  refine wpAny_execs_cons ?_
  refine wpAny_For ?_
  walk_at "mes"
  refine drawFm (A := A.deeper _) C F₉ (.tail (.tail .head)) ⟨rfl, 0, _, rfl⟩ (spot := 0) (by show A.depth + 1 < _; omega) hh hcs hZ hzl (by omega) (by decide) fun d₀ td₀ h₁₀ tk₁₀ oP hd0 hd2 hoP F₁₀ => ?_
  clear F₉
  obtain ⟨n, hn34⟩ : ∃ n : Nat, (4 : Int) + d₀ = 1 + n ∧ (n = 3 ∨ n = 4) := ⟨(3 + d₀).toNat, by omega, by omega⟩
  walk_at "mes"
  refine range2Fm F₁₀ fun r h₁₁ tk₁₁ u1 u2 u3 hr F₁₁ => ?_
  clear F₁₀
  rw [hn34.1] at hr
  dsimp only at F₁₁
  refine iterRange (A := A.deeper _) hh F₁₁ hr (by rcases hn34.2 with e | e <;> rw [e] <;> rfl) (fun i g m news => ∃ xs kl oP oD kvs, Drawn' w g CS PL RL PD [(L + 1 + 1 + 1, o1), (L + 1 + 1, o2), (L + 1, o3)] i m news xs kl oP oD kvs)
    ⟨[], 0, oP, _, [], rfl, rfl, (fun _ h => nomatch h), (fun j p h => by simp at h), hoP, emptyDict, Nat.le_refl _, (fun _ h => nomatch h), rfl, rfl, rfl⟩ ?_ ?_
  · --[slow
    rintro i hi v g₁ m₁ news₁ own h tk ⟨ti, rfl⟩ ⟨xs, kl, oP, oD, kvs, J⟩ x₁ F₁₂
    obtain ⟨rfl, j1, j2, j3, j4, j5, j6, j7, j8, j9, j10⟩ := J
    replace C := C.keeps x₁
    refine PySem.wpAny_assign_Name ?_
    refine stL F₁₂ rfl rfl rfl fun h₁₃ F₁₃ => ?_
    refine hideQ fun R hRR => ?_
    walk_at "mes"
    clear F₁₂
    have hcs' := hcs.at fun _ => x₁ _ _
    have hil : i < 4 := by omega
    refine drawFm (A := A.deeper _) C F₁₃ (by (first | exact At.head | exact At.tail (At.head) | exact At.tail (At.tail (At.head)) | exact At.tail (At.tail (At.tail (At.head))) | exact At.tail (At.tail (At.tail (At.tail (At.head)))) | exact At.tail (At.tail (At.tail (At.tail (At.tail (At.head))))) | exact At.tail (At.tail (At.tail (At.tail (At.tail (At.tail (At.head)))))) | exact At.app (At.head) _ | exact At.app (At.tail (At.head)) _ | exact At.app (At.tail (At.tail (At.head))) _ | exact At.app (At.tail (At.tail (At.tail (At.head)))) _ | exact At.app (At.tail (At.tail (At.tail (At.tail (At.head))))) _ | exact At.tail (At.app (At.head) _) | exact At.tail (At.app (At.tail (At.head)) _) | exact At.tail (At.app (At.tail (At.tail (At.head))) _) | exact At.tail (At.app (At.tail (At.tail (At.tail (At.head)))) _) | exact At.tail (At.app (At.tail (At.tail (At.tail (At.tail (At.head))))) _) | exact At.tail (At.tail (At.app (At.head) _)) | exact At.tail (At.tail (At.app (At.tail (At.head)) _)) | exact At.tail (At.tail (At.app (At.tail (At.tail (At.head))) _)) | exact At.tail (At.tail (At.app (At.tail (At.tail (At.tail (At.head)))) _)) | exact At.tail (At.tail (At.app (At.tail (At.tail (At.tail (At.tail (At.head))))) _)) | exact At.tail (At.tail (At.tail (At.app (At.head) _))) | exact At.tail (At.tail (At.tail (At.app (At.tail (At.head)) _))) | exact At.tail (At.tail (At.tail (At.app (At.tail (At.tail (At.head))) _))) | exact At.tail (At.tail (At.tail (At.app (At.tail (At.tail (At.tail (At.head)))) _))) | exact At.tail (At.tail (At.tail (At.app (At.tail (At.tail (At.tail (At.tail (At.head))))) _))))) j4 (by show A.depth + 1 < _; omega) hh hcs' hZ hzl (by omega) (by decide) fun da ta h₁₄ tk₁₄ oP1 ha0 ha2 hP1 F₁₄ => ?_
    clear F₁₃
    walk_at "mes"
    rename_i T1 _ _ _ _ T2 _ _ _ _ T3 h₁₅ _ _ F₁₅
    refine drawFm (A := A.deeper _) C F₁₅ (by (first | exact At.head | exact At.tail (At.head) | exact At.tail (At.tail (At.head)) | exact At.tail (At.tail (At.tail (At.head))) | exact At.tail (At.tail (At.tail (At.tail (At.head)))) | exact At.tail (At.tail (At.tail (At.tail (At.tail (At.head))))) | exact At.tail (At.tail (At.tail (At.tail (At.tail (At.tail (At.head)))))) | exact At.app (At.head) _ | exact At.app (At.tail (At.head)) _ | exact At.app (At.tail (At.tail (At.head))) _ | exact At.app (At.tail (At.tail (At.tail (At.head)))) _ | exact At.app (At.tail (At.tail (At.tail (At.tail (At.head))))) _ | exact At.tail (At.app (At.head) _) | exact At.tail (At.app (At.tail (At.head)) _) | exact At.tail (At.app (At.tail (At.tail (At.head))) _) | exact At.tail (At.app (At.tail (At.tail (At.tail (At.head)))) _) | exact At.tail (At.app (At.tail (At.tail (At.tail (At.tail (At.head))))) _) | exact At.tail (At.tail (At.app (At.head) _)) | exact At.tail (At.tail (At.app (At.tail (At.head)) _)) | exact At.tail (At.tail (At.app (At.tail (At.tail (At.head))) _)) | exact At.tail (At.tail (At.app (At.tail (At.tail (At.tail (At.head)))) _)) | exact At.tail (At.tail (At.app (At.tail (At.tail (At.tail (At.tail (At.head))))) _)) | exact At.tail (At.tail (At.tail (At.app (At.head) _))) | exact At.tail (At.tail (At.tail (At.app (At.tail (At.head)) _))) | exact At.tail (At.tail (At.tail (At.app (At.tail (At.tail (At.head))) _))) | exact At.tail (At.tail (At.tail (At.app (At.tail (At.tail (At.tail (At.head)))) _))) | exact At.tail (At.tail (At.tail (At.app (At.tail (At.tail (At.tail (At.tail (At.head))))) _))))) hP1 (by show A.depth + 1 < _; omega) hh hcs' hZ hzl (by omega) (by decide) fun dm tm h₁₆ tk₁₆ oP2 hm0 hm2 hP2 F₁₆ => ?_
    clear F₁₅
    walk_at "mes"
    rename_i TU h₁₇ _ _ F₁₇
    refine unpackFm (A := A.deeper _) F₁₇ (F₁₇.tupIn (.head _)) hh rfl fun h₁₈ F₁₈ _ => ?_
    replace F₁₈ := F₁₈.tail
    clear F₁₆ F₁₇
    refine assignInOrder_cons (bindName_ (stL F₁₈ rfl rfl rfl fun h₁₉ F₁₉ => ?_))
    refine assignInOrder_cons (bindName_ (stL F₁₉ rfl rfl rfl fun h₂₀ F₂₀ => ?_))
    refine assignInOrder_nil ?_
    clear F₁₈ F₁₉
    obtain ⟨g₂, y₂, F₂₁, hk⟩ := F₂₀.sink (imm := [_, _, _]) (muts := own ++ _)
    clear F₂₀
    have pT : IsPath g₂ (.ref T3) (7 + da) := ⟨T3, T2, T1, _, _, rfl, ⟨_, hk _ (.head _), rfl, _, rfl⟩, ⟨_, hk _ (.tail _ (.head _)), rfl, _, rfl⟩, ⟨_, hk _ (.tail _ (.tail _ (.head _))), rfl, _, rfl⟩⟩
    refine wpAny_execs_cons ?_
    refine wpAny_Assign_Name ?_
    replace C := C.keeps y₂
    refine dictFm (prog := PR) (w := w) (knd := strKind PR w) (F₂₁.cx C).nolimit F₂₁ rfl rfl (by simp) (by decide) fun dA h₂₁ hdn hdm xd F₂₂ => ?_
    clear F₂₁
    refine pairTrees_cons_walk ?_
    walk_at "mes"
    refine pairTrees_cons_walk ?_
    walk_at "mes"
    refine pairTrees_cons_walk ?_
    walk_at "mes"
    refine pairTrees_cons_walk ?_
    walk_at "mes"
    refine evalPairs_nil ?_
    refine ⟨[("origin", .int 0 _), ("as_path", .ref T3), ("next_hop", .int 1 _), ("med", .int dm tm)], _, _, ⟨strKind_is _ _ _ _, rfl, strKind_is _ _ _ _, rfl, strKind_is _ _ _ _, rfl, strKind_is _ _ _ _, rfl, trivial⟩, F₂₂, .head, fun h₂₂ oA tkA hA F₂₃ => ?_⟩
    clear F₂₂
    replace hA : oA.IsDictOf (strKind PR w) [("origin", .int 0 _), ("as_path", .ref T3), ("next_hop", .int 1 _), ("med", .int dm tm)] := hA
    walk_at "mes"
    rename_i TN h₂₄ _ _ F₂₄
    clear F₂₃
    refine drawFm (A := A.deeper _) C F₂₄ (by (first | exact At.head | exact At.tail (At.head) | exact At.tail (At.tail (At.head)) | exact At.tail (At.tail (At.tail (At.head))) | exact At.tail (At.tail (At.tail (At.tail (At.head)))) | exact At.tail (At.tail (At.tail (At.tail (At.tail (At.head))))) | exact At.tail (At.tail (At.tail (At.tail (At.tail (At.tail (At.head)))))) | exact At.app (At.head) _ | exact At.app (At.tail (At.head)) _ | exact At.app (At.tail (At.tail (At.head))) _ | exact At.app (At.tail (At.tail (At.tail (At.head)))) _ | exact At.app (At.tail (At.tail (At.tail (At.tail (At.head))))) _ | exact At.tail (At.app (At.head) _) | exact At.tail (At.app (At.tail (At.head)) _) | exact At.tail (At.app (At.tail (At.tail (At.head))) _) | exact At.tail (At.app (At.tail (At.tail (At.tail (At.head)))) _) | exact At.tail (At.app (At.tail (At.tail (At.tail (At.tail (At.head))))) _) | exact At.tail (At.tail (At.app (At.head) _)) | exact At.tail (At.tail (At.app (At.tail (At.head)) _)) | exact At.tail (At.tail (At.app (At.tail (At.tail (At.head))) _)) | exact At.tail (At.tail (At.app (At.tail (At.tail (At.tail (At.head)))) _)) | exact At.tail (At.tail (At.app (At.tail (At.tail (At.tail (At.tail (At.head))))) _)) | exact At.tail (At.tail (At.tail (At.app (At.head) _))) | exact At.tail (At.tail (At.tail (At.app (At.tail (At.head)) _))) | exact At.tail (At.tail (At.tail (At.app (At.tail (At.tail (At.head))) _))) | exact At.tail (At.tail (At.tail (At.app (At.tail (At.tail (At.tail (At.head)))) _))) | exact At.tail (At.tail (At.tail (At.app (At.tail (At.tail (At.tail (At.tail (At.head))))) _))))) hP2 (by show A.depth + 1 < _; omega) hh (hcs'.at fun _ => y₂ _ _) hZ hzl (by omega) (by decide) fun dc tc h₂₅ tk₂₅ oP3 hc0 hc3 hP3 F₂₅ => ?_
    clear F₂₄
    walk_at "mes"
    rename_i TR h₂₆ _ _ _ h₂₇ kR F₂₇
    clear F₂₅
    refine wpAny_Assign_Subscript ?_
    refine dictFm (prog := PR) (w := w) (knd := strKind PR w) (F₂₇.cx C).nolimit F₂₇ rfl rfl (by simp) (by decide) fun dP h₂₈ hpn hpm xp F₂₈ => ?_
    clear F₂₇
    obtain ⟨_, _, _, _, _, eT, pT1, pT2, pT3⟩ := id pT
    cases eT
    refine pairTrees_cons_walk ?_
    walk_at "mes"
    refine pairTrees_cons_walk ?_
    walk_at "mes"
    refine pairTrees_cons_walk ?_
    walk_at "mes"
    refine pairTrees_cons_walk ?_
    walk_at "mes"
    refine evalPairs_nil ?_
    refine ⟨[("id", .int (1 + i) _), ("as", .int (7 + da) _), ("addr", .int (20 - (1 + i)) _), ("kind", .str "ebgp" _)], _, _, ⟨strKind_is _ _ _ _, rfl, strKind_is _ _ _ _, rfl, strKind_is _ _ _ _, rfl, strKind_is _ _ _ _, rfl, trivial⟩, F₂₈, .head, fun h₂₉ oQ tkQ hQd F₂₉ => ?_⟩
    clear F₂₈
    replace hQd : oQ.IsDictOf (strKind PR w) [("id", .int (1 + i) _), ("as", .int (7 + da) _), ("addr", .int (20 - (1 + i)) _), ("kind", .str "ebgp" _)] := hQd
    walk_at "mes"
    refine setFm (knd := intKind PR w) (intKind_is _ _ _ _) F₂₉ (.tail (.tail (.tail (.tail (.app .head own))))) j5 (by rw [sizeLine_eq]; omega) fun h₃₀ oD' hD' F₃₀ => ?_
    clear F₂₉
    obtain ⟨g₃, y₃, F₃₁, hk⟩ := F₃₀.sink (imm := [_, _, _, _]) (muts := own ++ _)
    clear F₃₀
    walk_at "mes"
    have hlen : xs.length = i := j1
    subst j1
    refine hRR _ _ ?_
    refine ⟨g₃, h₃₀, _, _, _, rfl, y₂.trans y₃, F₃₁, xs ++ [(TR, ⟨1 + (xs.length : Int), 7 + da, dm, 1 + dc⟩)], kR, oP3, oD', stored kvs (1 + (xs.length : Int)) (.ref dP), ?_⟩
    have R3 : AreR w g₃ xs := j2.mono (y₂.trans y₃)
    have RN : IsRoute w g₃ TR ⟨1 + (xs.length : Int), 7 + da, dm, 1 + dc⟩ :=
      .mk' ⟨_, hk _ (.tail _ (.head _)), rfl, _, rfl⟩ ⟨_, hk _ (.tail _ (.tail _ (.head _))), rfl, _, rfl⟩ hdm (Heap.dictOf_iff.mpr ⟨_, hk _ (.tail _ (.tail _ (.tail _ (.head _)))), hA⟩) (pT.mono y₃)
    refine ⟨?_, by simp, ?_, ?_, ?_, hD', ?_, ?_, j8, j9, j10⟩
    · rw [show vals (xs ++ [(TR, (⟨1 + (xs.length : Int), 7 + da, dm, 1 + dc⟩ : Rt))]) = vals xs ++ [.ref TR] by simp [vals]]
    · intro p hp
      rcases List.mem_append.mp hp with hp | hp
      · exact R3 p hp
      · rw [List.mem_singleton.mp hp]; exact RN
    · intro j p hp
      by_cases hj : j < xs.length
      · rw [List.getElem?_append_left hj] at hp
        exact j3 j p hp
      · rw [List.getElem?_append_right (by omega)] at hp
        have hj' : j = xs.length := by
          have := (List.getElem?_eq_some_iff.mp hp).1
          simp at this; omega
        subst hj'
        simp at hp
        subst hp
        exact ⟨by show (1 + (xs.length : Int)) = xs.length + 1; omega, by show 7 + da = 7 ∨ 7 + da = 8; omega, by show dm = 0 ∨ dm = 1; omega, by show 1 + dc = 1 ∨ 1 + dc = 2 ∨ 1 + dc = 3; omega⟩
    · rw [show 1 + 3 * (xs.length + 1) = 1 + 3 * xs.length + 1 + 1 + 1 by omega]; exact hP3
    · exact Nat.le_trans (stored_length_le _ _ _) (by omega)
    · intro p hp
      rcases List.mem_append.mp hp with hp | hp
      · obtain ⟨i', hi'⟩ := List.mem_iff_getElem?.mp hp
        have hnum := (j3 i' p hi').num
        have hi2 := (List.getElem?_eq_some_iff.mp hi').1
        obtain ⟨q, v, t0, t1, t2, e1, e2, e3⟩ := (j7 p hp).mono (y₂.trans y₃)
        refine ⟨q, v, t0, t1, t2, ?_, e2, e3⟩
        rw [valueAt_stored, if_neg (by omega)]
        exact e1
      · rw [List.mem_singleton.mp hp]
        refine ⟨dP, _, _, _, _, ?_, hpm, Heap.dictOf_iff.mpr ⟨_, hk _ (.head _), hQd⟩⟩
        rw [valueAt_stored, if_pos rfl]
    --slow]
  · intro g₁ m₁ news₁ h₁₂ tk₁₂ hJ x₁ F₁₂
    obtain ⟨xs, kl, oP, oD, kvs, J⟩ := hJ
    obtain ⟨rfl, j1, j2, j3, j4, j5, j6, j7, j8, j9, j10⟩ := J
    replace C := C.keeps x₁
    replace hcs := hcs.at fun _ => x₁ _ _
    dsimp only
    walk_at "mes"
    obtain ⟨g₂, y₂, F₁₃, hk⟩ := F₁₂.sink (imm := [(PD, oD), (RL, _)]) (muts := (PL, oP) :: _)
    have hPDd : g₂.DictOf (intKind PR w) PD kvs := Heap.dictOf_iff.mpr ⟨_, hk _ (.head _), j5⟩
    have hRL : g₂.IsList RL (vals xs).toArray := ⟨_, hk _ (.tail _ (.head _)), rfl, _, rfl⟩
    have hP : ∀ p ∈ xs, HasPeer w g₂ PD p.2.num := fun p hp => let ⟨q, v, t0, t1, t2, e1, e2, e3⟩ := (j7 p hp).mono y₂; ⟨kvs, q, v, t0, t1, t2, hPDd, e1, e2, e3⟩
    have hR := j2.mono y₂
    have hN := numsOk_of j2 j3
    replace C := C.keeps y₂
    replace hcs := hcs.at fun _ => y₂ _ _
    have hlen : xs.length = 3 ∨ xs.length = 4 := j1 ▸ hn34.2
    clear F₁₂ hk j2 j5 j6 j7
    refine dictFm (prog := PR) (w := w) (knd := strKind PR w) (F₁₃.cx C).nolimit F₁₃ rfl rfl (by simp) (by decide) fun PO h₁₄ _ hPOm _ F₁₄ => ?_
    clear F₁₃
    refine pairTrees_cons_walk ?_
    walk_at "mes"
    refine evalPairs_nil ?_
    refine ⟨[("always_med", .bool false)], _, _, ⟨strKind_is _ _ _ _, rfl, trivial⟩, F₁₄, .head, fun h₁₅ o4 tk₁₅ hO1 F₁₅ => ?_⟩
    clear F₁₄
    replace hO1 : o4.IsDictOf (strKind PR w) [("always_med", .bool false)] := hO1
    walk_at "mes"
    refine dictFm (prog := PR) (w := w) (knd := strKind PR w) (F₁₅.cx C).nolimit F₁₅ rfl rfl (by simp) (by decide) fun AO h₁₆ _ hAOm _ F₁₆ => ?_
    clear F₁₅
    refine pairTrees_cons_walk ?_
    walk_at "mes"
    refine evalPairs_nil ?_
    refine ⟨[("always_med", .bool true)], _, _, ⟨strKind_is _ _ _ _, rfl, trivial⟩, F₁₆, .head, fun h₁₇ o5 tk₁₇ hO2 F₁₇ => ?_⟩
    clear F₁₆
    replace hO2 : o5.IsDictOf (strKind PR w) [("always_med", .bool true)] := hO2
    walk_at "mes"
    rename_i TU h₁₈ _ _ F₁₈
    refine unpackFm (A := A.deeper _) F₁₈ (F₁₈.tupIn (.head _)) hh rfl fun h₁₉ F₁₉ _ => ?_
    clear F₁₇ F₁₈
    obtain ⟨g₃, y₃, F₂₀, hk⟩ := F₁₉.tail.sink (imm := [(AO, o5), (PO, o4)]) (muts := (PL, oP) :: _)
    clear F₁₉
    have hOp : IsOpts w g₃ PO false := ⟨hPOm, Heap.dictOf_iff.mpr ⟨_, hk _ (.tail _ (.head _)), hO1⟩⟩
    have hOa : IsOpts w g₃ AO true := ⟨hAOm, Heap.dictOf_iff.mpr ⟨_, hk _ (.head _), hO2⟩⟩
    clear hk hO1 hO2
    replace hPDd := hPDd.keep y₃
    replace hRL := hRL.at fun _ => y₃ _ _
    replace hP : ∀ p ∈ xs, HasPeer w g₃ PD p.2.num := fun p hp => (hP p hp).mono y₃
    replace hR := hR.mono y₃
    replace C := C.keeps y₃
    replace hcs := hcs.at fun _ => y₃ _ _
    refine assignInOrder_cons (bindName_ (stL F₂₀ rfl rfl rfl fun h₂₁ F₂₁ => ?_))
    refine assignInOrder_cons (bindName_ (stL F₂₁ rfl rfl rfl fun h₂₂ F₂₂ => ?_))
    refine assignInOrder_nil ?_
    clear F₂₀ F₂₁
    walk_at "mes"
    refine dict0Fm (F₂₂.cx C).nolimit F₂₂ fun TD h₂₃ _ hTDm _ F₂₃ => ?_
    clear F₂₂
    walk_at "mes"
    refine dict0Fm (F₂₃.cx C).nolimit F₂₃ fun SD h₂₄ _ hSDm _ F₂₄ => ?_
    clear F₂₃
    walk_at "mes"
    rename_i TW h₂₅ _ _ F₂₅
    refine unpackFm (A := A.deeper _) F₂₅ (F₂₅.tupIn (.head _)) hh rfl fun h₂₆ F₂₆ _ => ?_
    replace F₂₆ := F₂₆.tail
    clear F₂₄ F₂₅
    refine assignInOrder_cons (bindName_ (stL F₂₆ rfl rfl rfl fun h₂₇ F₂₇ => ?_))
    refine assignInOrder_cons (bindName_ (stL F₂₇ rfl rfl rfl fun h₂₈ F₂₈ => ?_))
    refine assignInOrder_nil ?_
    clear F₂₆ F₂₇
    have B : Base w g₃ xs CS RL PD PO AO ys := ⟨C, hRL, hR, hP, hOp, hOa, hcs, j3, hlen⟩
    refine' lawTold (oT := _) (oS := _) ?ho ?hb hdp hh hu B F₂₈ ⟨j8, j9, j10, rfl, rfl, rfl, rfl⟩ d3 (TObj.new fun _ _ _ => Told.none) (TObj.new fun _ _ _ => Told.none) ?_
    case ho => k_is
    case hb => rfl
    clear F₂₈
    intro g₄ h₂₉ tk₂₉ m₄ oT oS o3' v3' x₄ F₂₉ hm₄ d3' hT hS
    refine' lawRound ?ho hdp hh hu (B.mono x₄) F₂₉ hm₄ d3' hT hS ?_
    case ho => k_is
    clear F₂₉ hm₄ d3'
    intro g₅ h₃₀ tk₃₀ m₅ o3'' v3'' x₅ F₃₀ hm₅ d3''
    refine' lawEnd ?ho hdp hh hu (B.mono (x₄.trans x₅)) F₃₀ hm₅ d1 d2 d3'' j4 (by omega) hZ hzl fun h' tk' x₆ => hQ h' tk' (x₀.trans (x₁.trans (y₂.trans (y₃.trans (x₄.trans (x₅.trans x₆))))))
    case ho => k_is
end

theorem theRow : PySem.Challenge.rw_sz0104_01.Holds := by
  refine hd ?_
  k_fill
  intro w s₀ s₁ mg mb G Y fa o pm cd doc dV kV ho hd' hcd hD hmg hg args vals as hpre hlay hrd hwl hlo
  have KX := kIn_of Y
  refine Ground.open G ?_
  intro T B D TE TW
  have h133 : mg "law" = some (.ref 133) := mg_of KX T.g (by k_is)
  have hfa : fa = 133 := by
    have h : mg "law" = some (.ref fa) := hmg
    rw [h133] at h
    injection h with h
    injection h with h
    exact h.symm
  subst hfa
  have C : Cx w s₁.heap := ⟨KX, _, _, _, topRead_of T⟩
  clear D TE TW B T h133 hmg hD hcd hd' ho KX Y G
  wrow_args hpre hlay hrd hwl hlo
  refine lawCall C (by decide +kernel) rfl (by decide +kernel) (by assumption) (by assumption) (by omega) fun h' tk x => ?_
  refine ⟨.inl ⟨_, .bool true, [], rfl, fun _ => rfl, .bool true, ?_, fun _ => ⟨List.nodup_nil, fun _ h => nomatch h⟩⟩, .of_keep x, rfl, .of_eq hg⟩
  with_unfolding_all rfl

end Mine

theorem PySem.Challenge.cw_sz0104_01_holds : PySem.Challenge.rw_sz0104_01.Holds :=
  Mine.theRow
