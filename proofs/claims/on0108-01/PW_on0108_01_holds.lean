import PyProof.Rows.All
import Wide.All
import OpenK.AllK
import Wide.FinOn
import Lean
import PySem.Challenge.RW_on0108_01
open PySem PySem.W PySem.Calls PyProof.Rows PySem.Spec
set_option Elab.async false
set_option maxRecDepth 100000
set_option linter.all false
set_option compiler.extract_closed false
namespace Mine
noncomputable def Wr {p : Prop} (_ : p) : Prop := p
theorem Wr.of {p : Prop} (h : p) : Wr h := h
theorem Wr.out {p : Prop} {h : p} (x : Wr h) : p := x
-- PR
set_option maxRecDepth 100000
set_option maxHeartbeats 8000000
noncomputable def aside : Prop := True
theorem asideOf (_ : OpenRow.Holds { PySem.Challenge.rw_on0108_01.row with writes := true }) : aside = True := rfl
set_option Elab.async true in
theorem pre : aside ∧ True := by
  simp (disch := k_head) only [asideOf, and_true]
  trivial

-- Fw
/-- from h to h' nothing is lost but at mods -/
structure Grow (mods : List Addr) (h h' : Heap) : Prop where
  keep : ∀ b o, b ∉ mods → h.get? b = some o → h'.get? b = some o
  dom : ∀ b, h'.get? b = none → h.get? b = none

theorem Grow.trans {ma mb : List Addr} {h h' h'' : Heap} (x : Grow ma h h') (y : Grow mb h' h'') (hs : ∀ b ∈ mb, b ∈ ma ∨ h.get? b = none) : Grow ma h h'' :=
  ⟨fun b o hb e => y.keep b o (fun q => (hs b q).elim hb (fun z => by rw [z] at e; cases e)) (x.keep b o hb e), fun b e => x.dom b (y.dom b e)⟩

/-- objects of the law's own making, written out -/
inductive Led (H0 h : Heap) : List (Addr × Obj) → Prop where
  | nil : Led H0 h []
  | cons {a : Addr} {o : Obj} {r : List (Addr × Obj)} (at_ : h.get? a = some o) (own : H0.get? a = none) (rest : Led H0 h r) : Led H0 h ((a, o) :: r)
theorem Led.all {H0 h : Heap} {l : List (Addr × Obj)} (x : Led H0 h l) : ∀ q ∈ l, h.get? q.1 = some q.2 ∧ H0.get? q.1 = none := by
  induction x with
  | nil => intro q hq; cases hq
  | cons a o _ ih =>
    intro q hq
    rcases List.mem_cons.mp hq with rfl | hq
    · exact ⟨a, o⟩
    · exact ih q hq

/-- the call of a plain def: its frame begins; hid: what it may read and write, written out -/
theorem enter {w : World} {A : Around} {s : Shared} {R : Result → Shared → Prop} {H0 : Heap} {name qual : Str} {params : Arguments} {body : List Stmt} {scope : Scope} {dV kV doc pm cdv ct oc : Value} {an od : Option Addr} {osl : Array (Option Value)} {f : Addr} {args : Args} {binds : List (Str × Value)}
    {p : Program} {loose : List Str} {mean : ExcName → Option Value} {mg mb : Str → Option Value}
    (X : (pre.heap_1_1 w.params).In H0) (T : Top p loose mean mg mb H0) (S : H0.StaysIn s.heap) {hid : List (Addr × Obj)} (led : Led H0 s.heap hid)
    (ho : (pre.heap_1_1 w.params).lookup f = some ⟨oc, od, .func (fnOf name qual params body scope dV kV doc pm an cdv ct), osl⟩) (hcd : codeIn (pre.heap_1_1 w.params) cdv qual = true) (hroom : A.depth < recursionLimit)
    (hbind : BindsTo s (fnOf name qual params body scope dV kV doc pm an cdv ct) args binds) (hloc : ∀ y ∈ binds, scope.names.lookup y.1 = some .local)
    (h : ∀ g L h₁, (pre.heap_1_1 w.params).In g → Top p loose mean mg mb g → H0.StaysIn g → (∀ b o, s.heap.get? b = some o → b ∉ hid.map (·.1) → g.get? b = some o) → (∀ b o, g.get? b = some o → s.heap.get? b = some o) →
      (∀ b o, s.heap.get? b = some o → h₁.get? b = some o) → s.heap.objs.size = L → Fr g L h₁ (fun y => binds.reverse.lookup y) → News g L h₁ hid →
      wpAny (model PySem.Challenge.rw_on0108_01.row.prog w) (A.deeper (envOf qual scope L f cdv)) (execs body (envOf qual scope L f cdv))
        (fun fl s' => R (.ok (.ret (match fl with | .ret v => v | _ => .none))) s') (fun _ _ => False)
        { s with heap := h₁, toks := s.toks + binds.length })
    (hco : scope.isCoroutine = false) (hgen : scope.isGenerator = false) (hk : scope.kind = .function)
    (hcell : ∀ x ∈ scope.names, x.2 ≠ .cell) : codeAny (model PySem.Challenge.rw_on0108_01.row.prog w) A (.call (.ref f) args) R s := by
  have hin := led.all
  have nm : ∀ b o, H0.get? b = some o → b ∉ hid.map (·.1) := fun b o e q => by
    obtain ⟨p, hp, rfl⟩ := List.mem_map.mp q
    rw [(hin p hp).2] at e; cases e
  refine codeAny_call_def (fd := fnOf name qual params body scope dV kV doc pm an cdv ct) (body := body) (binds := binds) hroom ((X.keeps S) _ _ ho) rfl (T.nolimit.keeps S) (codeRec_of (X.keeps S) hcd) rfl hbind hcell hloc (fun h₁ hns hk₁ => ?_) hco hgen hk
  have st : H0.StaysIn (hideAll s.heap (hid.map (·.1))) := fun b o e => hideAll_get _ (S b o e) (nm b o e)
  refine wpAny_mono (h _ s.heap.objs.size h₁ (X.keeps st) (T.keeps st) st (fun b o e n => hideAll_get _ e n) (fun b o e => of_hideAll _ e) hk₁ rfl ⟨hns, fun b o e => hk₁ b o (of_hideAll _ e), Nat.le_of_eq (hideAll_size _ _)⟩
    (fun q hq => ⟨hk₁ _ _ (hin q hq).1, Nat.ne_of_lt (Heap.lt_size (hin q hq).1), hideAll_none _ (List.mem_map_of_mem hq)⟩)) (fun _ _ y => y) (fun _ _ y => y.elim)

/-- the ledger behind a call that changed what lies at mods -/
inductive Upds (mods : List Nat) (h' : Heap) : List (Addr × Obj) → List (Addr × Obj) → Prop where
  | nil : Upds mods h' [] []
  | keep {a : Nat} {o : Obj} {r r' : List (Addr × Obj)} (n : a ∉ mods) (x : Upds mods h' r r') : Upds mods h' ((a, o) :: r) ((a, o) :: r')
  | chg {a : Nat} {o o' : Obj} {r r' : List (Addr × Obj)} (e : h'.get? a = some o') (x : Upds mods h' r r') : Upds mods h' ((a, o) :: r) ((a, o') :: r')
theorem Upds.news {mods : List Nat} {g h h' : Heap} {L : Addr} {l l' : List (Addr × Obj)} (u : Upds mods h' l l') (G : Grow mods h h') (N : News g L h l) : News g L h' l' := by
  induction u with
  | nil => exact News.nil
  | keep n _ ih =>
    intro q hq
    rcases List.mem_cons.mp hq with rfl | hq
    · have z := N _ (.head _); exact ⟨G.keep _ _ n z.1, z.2⟩
    · exact ih (fun q hq => N q (.tail _ hq)) q hq
  | chg e _ ih =>
    intro q hq
    rcases List.mem_cons.mp hq with rfl | hq
    · have z := N _ (.head _); exact ⟨e, z.2⟩
    · exact ih (fun q hq => N q (.tail _ hq)) q hq
theorem frGrow {mods : List Nat} {g h h' : Heap} {L : Addr} {m : Str → Option Value} {l : List (Addr × Obj)} (F : Fr g L h m) (N : News g L h l) (G : Grow mods h h') (hm : ∀ b ∈ mods, ∃ o, (b, o) ∈ l) : Fr g L h' m := by
  have nm : L ∉ mods := fun q => by obtain ⟨o, ho⟩ := hm _ q; exact (N _ ho).2.1 rfl
  obtain ⟨oL, es, ep, hL, r⟩ := F.ns
  refine ⟨⟨oL, es, ep, G.keep _ _ nm hL, r⟩, fun b o e => G.keep b o (fun q => ?_) (F.keep b o e), F.above⟩
  obtain ⟨o', ho'⟩ := hm _ q
  have := (N _ ho').2.2
  rw [e] at this; cases this
theorem newsOwn {g h : Heap} {L a : Addr} {o : Obj} {l : List (Addr × Obj)} (N : News g L h l) (hm : (a, o) ∈ l) : g.get? a = none := (N _ hm).2.2
theorem newsAt {g h : Heap} {L a : Addr} {o : Obj} {l : List (Addr × Obj)} (N : News g L h l) (hm : (a, o) ∈ l) : h.get? a = some o := (N _ hm).1
noncomputable def AllNe (a : Nat) : List (Addr × Obj) → Prop
  | [] => True
  | p :: r => @Ne Nat p.1 a ∧ AllNe a r
theorem allNe_of {g h : Heap} {L : Addr} {a : Nat} {l : List (Addr × Obj)} (N : News g L h l) (hn : h.get? a = none) : AllNe a l := by
  induction l with
  | nil => trivial
  | cons p r ih =>
    refine ⟨fun e => ?_, ih fun q hq => N q (.tail _ hq)⟩
    have := (N p (.head _)).1
    rw [e, hn] at this; cases this
/-- what is new and stands behind a call -/
theorem newsAdd {g h : Heap} {L : Addr} {a : Nat} {m : Str → Option Value} {o : Obj} {l : List (Addr × Obj)} {h₁ : Heap} (F₁ : Fr g L h₁ m) (N : News g L h l) (e : h.get? a = some o) (hn : h₁.get? a = none) : News g L h ((a, o) :: l) := by
  intro q hq
  rcases List.mem_cons.mp hq with rfl | hq
  · refine ⟨e, fun z => ?_, ?_⟩
    · obtain ⟨oL, es, ep, hL, _⟩ := F₁.ns
      rw [← z] at hL
      rw [hn] at hL; cases hL
    · cases z : g.get? a with
      | none => rfl
      | some o' => have := F₁.keep _ _ z; rw [hn] at this; cases this
  · exact N q hq
/-- an object of the body's own was not there at the call -/
theorem fresh_of {g h h' : Heap} {L : Addr} {t : Nat} {o : Obj} {hid l : List (Addr × Obj)} (hg : ∀ b o, h.get? b = some o → b ∉ hid.map (·.1) → g.get? b = some o) (N : News g L h' l) (hm : (t, o) ∈ l) (hn : t ∉ hid.map (·.1)) : h.get? t = none := by
  cases q : h.get? t with
  | none => rfl
  | some o' => have := hg _ _ q hn; rw [newsOwn N hm] at this; cases this

/-- what stands at the end of a def's frame, beside mods -/
inductive Kept (mods : List Nat) (l : List (Addr × Obj)) : List (Addr × Obj) → Prop where
  | nil : Kept mods l []
  | out {a : Nat} {o o' : Obj} {r : List (Addr × Obj)} (n : a ∈ mods) (hm : (a, o') ∈ l) (x : Kept mods l r) : Kept mods l ((a, o) :: r)
  | still {a : Nat} {o : Obj} {r : List (Addr × Obj)} (n : (a, o) ∈ l) (x : Kept mods l r) : Kept mods l ((a, o) :: r)
theorem Kept.all {mods : List Nat} {l r : List (Addr × Obj)} (k : Kept mods l r) : ∀ q ∈ r, q.1 ∈ mods ∨ q ∈ l := by
  induction k with
  | nil => intro q hq; cases hq
  | out n _ _ ih => intro q hq; rcases List.mem_cons.mp hq with rfl | hq; exact .inl n; exact ih q hq
  | still n _ ih => intro q hq; rcases List.mem_cons.mp hq with rfl | hq; exact .inr n; exact ih q hq
theorem Kept.there {mods : List Nat} {l r : List (Addr × Obj)} (k : Kept mods l r) : ∀ q ∈ r, ∃ o, (q.1, o) ∈ l := by
  induction k with
  | nil => intro q hq; cases hq
  | out n hm _ ih => intro q hq; rcases List.mem_cons.mp hq with rfl | hq; exact ⟨_, hm⟩; exact ih q hq
  | still n _ ih => intro q hq; rcases List.mem_cons.mp hq with rfl | hq; exact ⟨_, n⟩; exact ih q hq
/-- what the call of a def did, read off its frame's end -/
theorem grow_of {H0 g h h' : Heap} {L : Addr} {m : Str → Option Value} {hid l : List (Addr × Obj)} {mods : List Nat} (led : Led H0 h hid) (hg : ∀ b o, h.get? b = some o → b ∉ hid.map (·.1) → g.get? b = some o) (hL : h.objs.size = L)
    (F : Fr g L h' m) (N : News g L h' l) (hk : Kept mods l hid) : Grow mods h h' := by
  refine ⟨fun b o hb e => ?_, fun b e => ?_⟩
  · by_cases q : b ∈ hid.map (·.1)
    · obtain ⟨x, hx, rfl⟩ := List.mem_map.mp q
      rcases hk.all x hx with z | z
      · exact absurd z hb
      · have := (led.all x hx).1; rw [e] at this; cases this; exact (N x z).1
    · exact F.keep _ _ (hg b o e q)
  · cases z : h.get? b with
    | none => rfl
    | some o =>
      by_cases q : b ∈ hid.map (·.1)
      · obtain ⟨x, hx, rfl⟩ := List.mem_map.mp q
        obtain ⟨o', ho'⟩ := hk.there x hx
        have := (N _ ho').1; rw [e] at this; cases this
      · have := F.keep _ _ (hg b o z q); rw [e] at this; cases this

inductive Has (l : List (Addr × Obj)) : List Nat → Prop where
  | nil : Has l []
  | cons {b : Nat} {o : Obj} {r : List Nat} (hm : (b, o) ∈ l) (x : Has l r) : Has l (b :: r)
theorem Has.all {l : List (Addr × Obj)} {r : List Nat} (x : Has l r) : ∀ b ∈ r, ∃ o, (b, o) ∈ l := by
  induction x with
  | nil => intro b hb; cases hb
  | cons hm _ ih => intro b hb; rcases List.mem_cons.mp hb with rfl | hb; exact ⟨_, hm⟩; exact ih b hb
theorem stepN {mods : List Nat} {g h h' : Heap} {L : Addr} {m : Str → Option Value} {l l' : List (Addr × Obj)} {P : Prop} (u : Upds mods h' l l') (hm : Has l mods) (G : Grow mods h h') (F : Fr g L h m) (N : News g L h l)
    (k : Fr g L h' m → News g L h' l' → P) : P := k (frGrow F N G hm.all) (u.news G N)
theorem Grow.le {ma mb : List Nat} {h h' : Heap} (G : Grow ma h h') (s : ∀ b ∈ ma, b ∈ mb) : Grow mb h h' := ⟨fun b o n e => G.keep b o (fun q => n (s b q)) e, G.dom⟩

theorem Grow.any {mb : List Nat} {h h' : Heap} (G : Grow [] h h') : Grow mb h h' := ⟨fun b o _ e => G.keep b o (by simp) e, G.dom⟩
theorem Grow.then {mb : List Nat} {h h' h'' : Heap} (x : Grow [] h h') (y : Grow mb h' h'') : Grow mb h h'' := ⟨fun b o n e => y.keep b o n (x.keep b o (by simp) e), fun b e => x.dom b (y.dom b e)⟩
theorem Grow.trans' {mb : List Nat} {h h' h'' : Heap} (x : Grow mb h h') (y : Grow mb h' h'') : Grow mb h h'' := x.trans y fun _ hb => .inl hb
noncomputable def RetTo (Q : Value → Shared → Prop) (r : Result) (s : Shared) : Prop := ∃ v, r = .ok (.ret v) ∧ Q v s
theorem RetTo.mk {Q : Value → Shared → Prop} {v : Value} {s : Shared} (h : Q v s) : RetTo Q (.ok (.ret v)) s := ⟨_, rfl, h⟩
theorem callR {M : Model} {A : Around} {f : Value} {pos : List Value} {Q : Value → Shared → Prop} {E : Value → Shared → Prop} {s : Shared}
    (h : codeAny M A (.call f ⟨pos, []⟩) (RetTo Q) s) : wpAny M A (call f pos) Q E s :=
  wpAny_call (codeAny_mono h fun r s' x => by obtain ⟨v, rfl, q⟩ := x; exact q)

/-- the netlist's dict -/
noncomputable def NetD (c : Int) (I U C : Addr) (o : Obj) : Prop := ∃ h1 h2 h3 h4 h5 t1 t2 t3 t4 t5 x tx tc,
  o = dictOf [⟨h1, .str (Str.ofString "name") t1, .str x tx⟩, ⟨h2, .str (Str.ofString "count") t2, .int c tc⟩, ⟨h3, .str (Str.ofString "inputs") t3, .ref I⟩, ⟨h4, .str (Str.ofString "outputs") t4, .ref U⟩, ⟨h5, .str (Str.ofString "cells") t5, .ref C⟩] 5

theorem NetD.lit {c : Int} {I U C : Addr} {h1 h2 h3 h4 h5 : Int} {t1 t2 t3 t4 t5 tx tc : Tok} {x : Str} :
    NetD c I U C (dictOf [⟨h1, .str (Str.ofString "name") t1, .str x tx⟩, ⟨h2, .str (Str.ofString "count") t2, .int c tc⟩, ⟨h3, .str (Str.ofString "inputs") t3, .ref I⟩, ⟨h4, .str (Str.ofString "outputs") t4, .ref U⟩, ⟨h5, .str (Str.ofString "cells") t5, .ref C⟩] 5) :=
  ⟨_, _, _, _, _, _, _, _, _, _, _, _, _, rfl⟩

-- EnterC
/-- the call of a def that has cells: its frame begins -/
theorem enterC {w : World} {A : Around} {s : Shared} {R : Result → Shared → Prop} {H0 : Heap} {name qual : Str} {params : Arguments} {body : List Stmt} {scope : Scope} {dV kV doc pm cdv ct oc : Value} {an od : Option Addr} {osl : Array (Option Value)} {f : Addr} {args : Args} {binds : List (Str × Value)}
    {p : Program} {loose : List Str} {mean : ExcName → Option Value} {mg mb : Str → Option Value}
    (X : (pre.heap_1_1 w.params).In H0) (T : Top p loose mean mg mb H0) (S : H0.StaysIn s.heap) {hid : List (Addr × Obj)} (led : Led H0 s.heap hid)
    (ho : (pre.heap_1_1 w.params).lookup f = some ⟨oc, od, .func (fnOf name qual params body scope dV kV doc pm an cdv ct), osl⟩) (hcd : codeIn (pre.heap_1_1 w.params) cdv qual = true) (hroom : A.depth < recursionLimit)
    (hbind : BindsTo s (fnOf name qual params body scope dV kV doc pm an cdv ct) args binds) (hkind : (binds.all fun y => scope.names.lookup y.1 == some .local || scope.names.lookup y.1 == some .cell) = true)
    (hnd : ((cellsFrom 0 scope.names []).map (·.1)).Nodup)
    (h : ∀ g L h₁ tk cells, (pre.heap_1_1 w.params).In g → Top p loose mean mg mb g → H0.StaysIn g → (∀ b o, s.heap.get? b = some o → b ∉ hid.map (·.1) → g.get? b = some o) → (∀ b o, g.get? b = some o → s.heap.get? b = some o) →
      (∀ b o, s.heap.get? b = some o → h₁.get? b = some o) → s.heap.objs.size = L → Fr g L h₁ (bindL (envOfC qual scope L f cdv).kindOf binds fun _ => none) → News g L h₁ (cells ++ hid) →
      CellsAre (bindC (envOfC qual scope L f cdv).kindOf binds fun _ => none) (cellsFrom (L + 1) scope.names []) cells →
      wpAny (model PySem.Challenge.rw_on0108_01.row.prog w) (A.deeper (envOfC qual scope L f cdv)) (execs body (envOfC qual scope L f cdv))
        (fun fl s' => R (.ok (.ret (match fl with | .ret v => v | _ => .none))) s') (fun _ _ => False)
        { s with heap := h₁, toks := tk })
    (hco : scope.isCoroutine = false) (hgen : scope.isGenerator = false) (hk : scope.kind = .function) : codeAny (model PySem.Challenge.rw_on0108_01.row.prog w) A (.call (.ref f) args) R s := by
  have hin := led.all
  have nm : ∀ b o, H0.get? b = some o → b ∉ hid.map (·.1) := fun b o e q => by
    obtain ⟨p, hp, rfl⟩ := List.mem_map.mp q
    rw [(hin p hp).2] at e; cases e
  have st : H0.StaysIn (hideAll s.heap (hid.map (·.1))) := fun b o e => hideAll_get _ (S b o e) (nm b o e)
  refine codeAny_call_function hroom ((X.keeps S) _ _ ho) rfl hco hgen rfl (codeRec_of (X.keeps S) hcd) (hbind _ _ _ _ ?_)
  refine wpAny_newFunctionEnv_cells hk (kindsX hkind _) fun env' he s' x => ?_
  subst he
  refine ⟨(T.nolimit.keeps S).keeps x.toInCall.keep, codeAny_func ?_⟩
  obtain ⟨h₁, tk, rfl, _⟩ := x.done
  have hk₁ := x.toInCall.keep
  obtain ⟨cells, NC, Y⟩ := Cl.news (h₀ := s.heap) (Nat.le_refl _) fun n c hm => ⟨x.cell n c (lookup_of_mem_nodup (cellsFrom_names scope.names 0 (s.heap.objs.size + 1) [] [] rfl ▸ hnd) hm), x.above n c hm⟩
  refine wpAny_mono (h _ s.heap.objs.size h₁ tk cells (X.keeps st) (T.keeps st) st (fun b o e n => hideAll_get _ e n) (fun b o e => of_hideAll _ e) hk₁ rfl
    ⟨x.toInCall.ns, fun b o e => hk₁ b o (of_hideAll _ e), Nat.le_of_eq (hideAll_size _ _)⟩ (fun p hp => ?_) Y) (fun _ _ y => y) (fun _ _ y => y.elim)
  rcases List.mem_append.mp hp with hp | hp
  · refine ⟨(NC p hp).1, (NC p hp).2.1, ?_⟩
    cases q : (hideAll s.heap (hid.map (·.1))).get? p.1 with
    | none => rfl
    | some o => have := (NC p hp).2.2; rw [of_hideAll _ q] at this; cases this
  · exact ⟨hk₁ _ _ (hin p hp).1, Nat.ne_of_lt (Heap.lt_size (hin p hp).1), hideAll_none _ (List.mem_map_of_mem hp)⟩

-- Kind
inductive SI where
  | s (x : Str)
  | i (k : Int)
  deriving DecidableEq

noncomputable def SI.is : SI → Value → Bool
  | .s x, v => Value.isStrOf x v
  | .i k, v => Value.isInt k v
theorem SI.cases_is {k : SI} {v : Value} (h : k.is v = true) : (∃ x t, k = .s x ∧ v = .str x t) ∨ (∃ n t, k = .i n ∧ v = .int n t) := by
  cases k with
  | s x => obtain ⟨t, rfl⟩ := Value.isStrOf_shape h; exact .inl ⟨x, t, rfl, rfl⟩
  | i n => obtain ⟨t, rfl⟩ := Value.isInt_shape h; exact .inr ⟨n, t, rfl, rfl⟩

theorem eqBool_si {prog : Program} {w : World} {A : Around} {E : Value → Shared → Prop} {s : Shared} {x : Str} {t u : Tok} {n : Int} {Q : Bool → Shared → Prop} (h : Q false s) :
    wpAny (model prog w) A (eqBool (.str x t) (.int n u)) Q E s := by
  unfold eqBool
  try with_reducible refine wpAny_holding ?_
  show wpAny _ _ (if (Value.str x t == Value.int n u) = true then _ else _) Q E s
  rw [if_neg (by rw [show (Value.str x t == Value.int n u) = false from by rw [beq_eq_false_iff_ne]; exact fun e => Value.noConfusion e]; exact Bool.false_ne_true)]
  refine wpAny_bind ?_
  exact EqMixed.eq_str_int (wpAny_truthy_bool h)
theorem eqBool_is {prog : Program} {w : World} {A : Around} {E : Value → Shared → Prop} {s : Shared} {x : Str} {t u : Tok} {n : Int} {Q : Bool → Shared → Prop} (h : Q false s) :
    wpAny (model prog w) A (eqBool (.int n u) (.str x t)) Q E s := by
  unfold eqBool
  try with_reducible refine wpAny_holding ?_
  show wpAny _ _ (if (Value.int n u == Value.str x t) = true then _ else _) Q E s
  rw [if_neg (by rw [show (Value.int n u == Value.str x t) = false from by rw [beq_eq_false_iff_ne]; exact fun e => Value.noConfusion e]; exact Bool.false_ne_true)]
  refine wpAny_bind ?_
  exact EqMixed.eq_int_str (wpAny_truthy_bool h)

noncomputable def siKind (prog : Program) (w : World) : KeyKind prog w SI where
  is := SI.is
  hash := fun k => match k with | .s x => hashStr w x | .i n => hashInt n
  inj := fun v a b ha hb => by
    rcases SI.cases_is ha with ⟨x, t, rfl, rfl⟩ | ⟨n, t, rfl, rfl⟩ <;> rcases SI.cases_is hb with ⟨y, u, rfl, e⟩ | ⟨m, u, rfl, e⟩ <;> cases e <;> rfl
  byValue := fun k v h => by rcases SI.cases_is h with ⟨x, t, rfl, rfl⟩ | ⟨n, t, rfl, rfl⟩ <;> rfl
  pyHash := fun hv h => by
    rcases SI.cases_is hv with ⟨x, t, rfl, rfl⟩ | ⟨n, t, rfl, rfl⟩
    · exact wpAny_pyHash_str h
    · exact wpAny_pyHash_int h
  eqBool := fun {A E s a b u v Q} hu hv h => by
    rcases SI.cases_is hu with ⟨x, t, rfl, rfl⟩ | ⟨n, t, rfl, rfl⟩ <;> rcases SI.cases_is hv with ⟨y, u, rfl, rfl⟩ | ⟨m, u, rfl, rfl⟩
    · refine wpAny_eqBool_str ?_
      have e : (decide (x = y)) = decide (SI.s x = SI.s y) := by simp
      rw [e]; exact h
    · exact eqBool_si (by simpa using h)
    · exact eqBool_is (by simpa using h)
    · refine wpAny_eqBool_int ?_
      have e : (n == m) = decide (SI.i n = SI.i m) := by by_cases q : n = m <;> simp [q]
      rw [e]; exact h
  «strs» := fun k x t v h => by
    rcases SI.cases_is h with ⟨y, u, rfl, e⟩ | ⟨m, u, rfl, e⟩
    · cases e
      cases v <;> rfl
    · cases e

-- Model
structure Cell where
  kind : Str
  out : Int
  ins : List Int

structure NS where
  count : Int
  cells : List Cell
  made : List SI → Option Int
  opp : Int → Option Int

noncomputable abbrev sNot : Str := Str.ofString "not"
noncomputable abbrev sAnd : Str := Str.ofString "and"
noncomputable abbrev sOr : Str := Str.ofString "or"
noncomputable abbrev sXor : Str := Str.ofString "xor"
noncomputable abbrev sMux : Str := Str.ofString "mux"

noncomputable def NS.add (σ : NS) (kind : Str) (ins : List Int) : NS := { σ with count := σ.count + 1, cells := σ.cells ++ [⟨kind, σ.count, ins⟩] }
noncomputable def NS.put (σ : NS) (key : List SI) (r : Int) : NS := { σ with made := fun k => if k = key then some r else σ.made k }
noncomputable def NS.opps (σ : NS) (a b : Int) : NS := { σ with opp := fun k => if k = b then some a else if k = a then some b else σ.opp k }
noncomputable def NS.oppB (σ : NS) (a b : Int) : Bool := (σ.opp a).getD (-1) == b
noncomputable abbrev NS.isOpp (σ : NS) (a b : Int) : Prop := σ.oppB a b = true

/-- a gate that is made once for its key -/
noncomputable def NS.once (σ : NS) (key : List SI) (kind : Str) (ins : List Int) : NS × Int :=
  match σ.made key with
  | some r => (σ, r)
  | none => ((σ.add kind ins).put key σ.count, σ.count)
noncomputable def NS.pair (σ : NS) (kind : Str) (a b : Int) : NS × Int := σ.once [.s kind, .i (min a b), .i (max a b)] kind [min a b, max a b]
noncomputable def NS.inv (σ : NS) (a : Int) : NS × Int :=
  if a = 0 ∨ a = 1 then (σ, 1 - a) else
  match σ.opp a with
  | some r => (σ, r)
  | none => ((σ.add sNot [a]).opps a σ.count, σ.count)
noncomputable def NS.both (σ : NS) (a b : Int) : NS × Int :=
  if a = 0 ∨ b = 0 ∨ σ.isOpp a b then (σ, 0) else if a = 1 ∨ a = b then (σ, b) else if b = 1 then (σ, a) else σ.pair sAnd a b
noncomputable def NS.either (σ : NS) (a b : Int) : NS × Int :=
  if a = 1 ∨ b = 1 ∨ σ.isOpp a b then (σ, 1) else if a = 0 ∨ a = b then (σ, b) else if b = 0 then (σ, a) else σ.pair sOr a b
noncomputable def NS.differ (σ : NS) (a b : Int) : NS × Int :=
  if a = b then (σ, 0) else if σ.isOpp a b then (σ, 1) else if a = 0 ∨ a = 1 then (if a = 1 then σ.inv b else (σ, b))
  else if b = 0 ∨ b = 1 then (if b = 1 then σ.inv a else (σ, a)) else σ.pair sXor a b
noncomputable def NS.mux (σ : NS) (s a b : Int) : NS × Int :=
  if s = 0 ∨ a = b then (σ, a) else if s = 1 then (σ, b) else if a = 0 ∨ a = s then σ.both s b else if b = 1 ∨ b = s then σ.either s a
  else if a = 1 ∨ σ.isOpp a s then (σ.inv s).1.either (σ.inv s).2 b
  else if b = 0 ∨ σ.isOpp b s then (σ.inv s).1.both (σ.inv s).2 a
  else if σ.isOpp a b then σ.differ s a
  else σ.once [.s sMux, .i s, .i a, .i b] sMux [s, a, b]

theorem NS.once_len (σ : NS) (key kind ins) : (σ.once key kind ins).1.cells.length ≤ σ.cells.length + 1 := by
  unfold NS.once; split <;> simp [NS.put, NS.add]
theorem NS.pair_len (σ : NS) (kind a b) : (σ.pair kind a b).1.cells.length ≤ σ.cells.length + 1 := σ.once_len _ _ _
theorem NS.inv_len (σ : NS) (a) : (σ.inv a).1.cells.length ≤ σ.cells.length + 1 := by
  unfold NS.inv; split
  · simp
  · split <;> simp [NS.opps, NS.add]
theorem NS.both_len (σ : NS) (a b) : (σ.both a b).1.cells.length ≤ σ.cells.length + 1 := by
  unfold NS.both; repeat' split
  all_goals first | exact NS.pair_len _ _ _ _ | simp
theorem NS.either_len (σ : NS) (a b) : (σ.either a b).1.cells.length ≤ σ.cells.length + 1 := by
  unfold NS.either; repeat' split
  all_goals first | exact NS.pair_len _ _ _ _ | simp
theorem NS.differ_len (σ : NS) (a b) : (σ.differ a b).1.cells.length ≤ σ.cells.length + 1 := by
  unfold NS.differ; repeat' split
  all_goals first | exact NS.pair_len _ _ _ _ | exact NS.inv_len _ _ | simp
theorem NS.mux_len (σ : NS) (s a b) : (σ.mux s a b).1.cells.length ≤ σ.cells.length + 2 := by
  have h1 := σ.inv_len s
  unfold NS.mux; repeat' split
  all_goals first
    | (simp; done)
    | exact Nat.le_succ_of_le (NS.both_len _ _ _)
    | exact Nat.le_succ_of_le (NS.either_len _ _ _)
    | exact Nat.le_succ_of_le (NS.differ_len _ _ _)
    | exact Nat.le_succ_of_le (NS.once_len _ _ _ _)
    | exact Nat.le_trans (NS.both_len _ _ _) (Nat.succ_le_succ h1)
    | exact Nat.le_trans (NS.either_len _ _ _) (Nat.succ_le_succ h1)

theorem NS.inv_01 {σ : NS} {n : Int} (h : n = 0 ∨ n = 1) : σ.inv n = (σ, 1 - n) := by unfold NS.inv; rw [if_pos h]
theorem NS.inv_some {σ : NS} {n r : Int} (h0 : n ≠ 0) (h1 : n ≠ 1) (h : σ.opp n = some r) : σ.inv n = (σ, r) := by unfold NS.inv; rw [if_neg (fun e => e.elim h0 h1), h]
theorem NS.inv_new {σ : NS} {n : Int} (h0 : n ≠ 0) (h1 : n ≠ 1) (h : σ.opp n = none) : σ.inv n = ((σ.add sNot [n]).opps n σ.count, σ.count) := by unfold NS.inv; rw [if_neg (fun e => e.elim h0 h1), h]
theorem NS.pair_some {σ : NS} {kind : Str} {i j r : Int} (h : σ.made [.s kind, .i (min i j), .i (max i j)] = some r) : σ.pair kind i j = (σ, r) := by unfold NS.pair NS.once; rw [h]
theorem NS.pair_new {σ : NS} {kind : Str} {i j : Int} (h : σ.made [.s kind, .i (min i j), .i (max i j)] = none) : σ.pair kind i j = ((σ.add kind [min i j, max i j]).put [.s kind, .i (min i j), .i (max i j)] σ.count, σ.count) := by unfold NS.pair NS.once; rw [h]

/-- the addresses of a netlist and its gates, in the order in which they were made -/
structure GA where
  Nd : Nat
  N : Nat
  I : Nat
  U : Nat
  C : Nat
  NL : Nat
  Gd : Nat
  G : Nat
  M : Nat
  O : Nat
structure GA.Chain (a : GA) : Prop where
  o1 : a.Nd < a.N
  o2 : a.N < a.I
  o3 : a.I < a.U
  o4 : a.U < a.C
  o5 : a.C < a.NL
  o6 : a.NL < a.Gd
  o7 : a.Gd < a.G
  o8 : a.G < a.M
  o9 : a.M < a.O
structure GA.Own (a : GA) (H0 : Heap) : Prop where
  Nd : H0.get? a.Nd = none
  N : H0.get? a.N = none
  C : H0.get? a.C = none
  Gd : H0.get? a.Gd = none
  G : H0.get? a.G = none
  M : H0.get? a.M = none
  O : H0.get? a.O = none

noncomputable abbrev tupOf (vs : List Value) (n : Nat) : Obj := { cls := .type "tuple", data := .seq vs.toArray n }
inductive Ints : List Value → List Int → Prop where
  | nil : Ints [] []
  | cons {k : Int} {t : Tok} {vs : List Value} {ks : List Int} : Ints vs ks → Ints (.int k t :: vs) (k :: ks)

/-- v is the tuple of a cell -/
noncomputable def CellAt (h : Heap) (v : Value) (c : Cell) : Prop :=
  ∃ t T tk tb vs n m, v = .ref t ∧ h.get? t = some (tupOf [.str c.kind tk, .int c.out tb, .ref T, .none] n) ∧ h.get? T = some (tupOf vs m) ∧ Ints vs c.ins
inductive CellsAt (h : Heap) : List Value → List Cell → Prop where
  | nil : CellsAt h [] []
  | cons {v : Value} {c : Cell} {vs : List Value} {cs : List Cell} : CellAt h v c → CellsAt h vs cs → CellsAt h (v :: vs) (c :: cs)

noncomputable def IsT (o : Obj) : Prop := o.cls = .type "tuple" ∧ ∃ xs n, o.data = .seq xs n
theorem isT (vs : List Value) (n : Nat) : IsT (tupOf vs n) := ⟨rfl, _, _, rfl⟩
/-- the tuples of h stand in h' -/
noncomputable def TupIn (h h' : Heap) : Prop := ∀ b o, h.get? b = some o → IsT o → h'.get? b = some o
theorem TupIn.trans {a b c : Heap} (x : TupIn a b) (y : TupIn b c) : TupIn a c := fun b o e k => y b o (x b o e k) k
theorem TupIn.refl (a : Heap) : TupIn a a := fun _ _ e _ => e
theorem CellAt.mono {h h' : Heap} {v : Value} {c : Cell} (k : TupIn h h') (x : CellAt h v c) : CellAt h' v c := by
  obtain ⟨t, T, tk, tb, vs, n, m, rfl, h1, h2, h3⟩ := x
  exact ⟨t, T, tk, tb, vs, n, m, rfl, k _ _ h1 (isT _ _), k _ _ h2 (isT _ _), h3⟩
theorem CellsAt.mono {h h' : Heap} {vs : List Value} {cs : List Cell} (k : TupIn h h') (x : CellsAt h vs cs) : CellsAt h' vs cs := by
  induction x with
  | nil => exact .nil
  | cons a _ ih => exact .cons (a.mono k) ih
theorem CellsAt.snoc {h : Heap} {vs : List Value} {cs : List Cell} {v : Value} {c : Cell} (x : CellsAt h vs cs) (y : CellAt h v c) : CellsAt h (vs ++ [v]) (cs ++ [c]) := by
  induction x with
  | nil => exact .cons y .nil
  | cons a _ ih => exact .cons a ih
theorem CellsAt.length {h : Heap} {vs : List Value} {cs : List Cell} (x : CellsAt h vs cs) : vs.length = cs.length := by
  induction x with
  | nil => rfl
  | cons _ _ ih => simp [ih]

noncomputable def GateD (N M O : Addr) (o : Obj) : Prop := ∃ h1 h2 h3 t1 t2 t3,
  o = dictOf [⟨h1, .str (Str.ofString "netlist") t1, .ref N⟩, ⟨h2, .str (Str.ofString "made") t2, .ref M⟩, ⟨h3, .str (Str.ofString "opposite") t3, .ref O⟩] 3

section
variable (prog : Program) (w : World)
/-- o is a dict from ints to ints -/
noncomputable def OppObj (o : Obj) (m : Int → Option Int) (n : Nat) : Prop :=
  ∃ kvs, o.IsDictOf (intKind prog w) kvs ∧ kvs.length ≤ n ∧ ∀ k, (valueAt kvs k = none ∧ m k = none) ∨ ∃ r t, valueAt kvs k = some (.int r t) ∧ m k = some r
noncomputable def MadeObj (h : Heap) (o : Obj) (m : List SI → Option Int) (n : Nat) : Prop :=
  ∃ xs es ep, o.ExactDict ∧ o.data = .dict es ep ∧ es.toList = xs.map (entryOfKey (tupleKind (siKind prog w))) ∧ (∀ x ∈ xs, IsTupleKey (siKind prog w) h x.1 x.2.1) ∧ (xs.map (·.1)).Nodup ∧ xs.length ≤ n ∧
    ∀ k, (atKey xs k = none ∧ m k = none) ∨ ∃ a r t, atKey xs k = some (a, .int r t) ∧ m k = some r
end
section
variable {prog : Program} {w : World}
theorem IsTupleKey.mono {K : Type} [DecidableEq K] {knd : KeyKind prog w K} {h h' : Heap} {ks : List K} {a : Addr} (k : TupIn h h') (x : IsTupleKey knd h ks a) : IsTupleKey knd h' ks a := by
  obtain ⟨o, items, n, ho, hc, hd, hi⟩ := x
  exact ⟨o, items, n, k _ _ ho ⟨hc, _, _, hd⟩, hc, hd, hi⟩
theorem MadeObj.mono {h h' : Heap} {o : Obj} {m : List SI → Option Int} {n : Nat} (k : TupIn h h') (x : MadeObj prog w h o m n) : MadeObj prog w h' o m n := by
  obtain ⟨xs, es, ep, a, b, c, d, e⟩ := x
  exact ⟨xs, es, ep, a, b, c, fun x hx => Mine.IsTupleKey.mono k (d x hx), e⟩
theorem OppObj.cls {o : Obj} {m : Int → Option Int} {n : Nat} (x : OppObj prog w o m n) : o.cls = .type "dict" := by obtain ⟨_, ⟨_, _, a, _⟩, _⟩ := x; exact a.1
theorem MadeObj.cls {h : Heap} {o : Obj} {m : List SI → Option Int} {n : Nat} (x : MadeObj prog w h o m n) : o.cls = .type "dict" := by obtain ⟨_, _, _, a, _⟩ := x; exact a.1
end

/-- the netlist and its gates lie in h -/
structure St (w : World) (H0 : Heap) (a : GA) (h : Heap) (σ : NS) : Prop where
  chain : a.Chain
  own : a.Own H0
  hN : h.get? a.N = some (instObj 162 a.Nd)
  hNd : ∃ o, h.get? a.Nd = some o ∧ NetD σ.count a.I a.U a.C o
  hC : ∃ vs n, h.get? a.C = some (listOf vs.toArray n) ∧ CellsAt h vs σ.cells
  hG : h.get? a.G = some (instObj 239 a.Gd)
  hGd : ∃ o, h.get? a.Gd = some o ∧ GateD a.N a.M a.O o
  hM : ∃ o, h.get? a.M = some o ∧ MadeObj PySem.Challenge.rw_on0108_01.row.prog w h o σ.made σ.cells.length
  hO : ∃ o, h.get? a.O = some o ∧ OppObj PySem.Challenge.rw_on0108_01.row.prog w o σ.opp (2 * σ.cells.length)
  c0 : 2 ≤ σ.count
  c1 : σ.count ≤ 10 + σ.cells.length

theorem MadeObj.le {prog : Program} {w : World} {h : Heap} {o : Obj} {m : List SI → Option Int} {n n' : Nat} (x : MadeObj prog w h o m n) (l : n ≤ n') : MadeObj prog w h o m n' := by
  obtain ⟨xs, es, ep, a, b, c, d, e, f, k⟩ := x
  exact ⟨xs, es, ep, a, b, c, d, e, Nat.le_trans f l, k⟩
theorem OppObj.le {prog : Program} {w : World} {o : Obj} {m : Int → Option Int} {n n' : Nat} (x : OppObj prog w o m n) (l : n ≤ n') : OppObj prog w o m n' := by
  obtain ⟨kvs, a, b, k⟩ := x
  exact ⟨kvs, a, Nat.le_trans b l, k⟩
theorem tup_of {mods : List Nat} {h h' : Heap} (G : Grow mods h h') (k : ∀ b ∈ mods, ∃ o, h.get? b = some o ∧ o.cls ≠ .type "tuple") : TupIn h h' := fun b o e hc =>
  G.keep b o (fun q => by obtain ⟨o', e', hn⟩ := k b q; rw [e] at e'; cases e'; exact hn hc.1) e
theorem St.tup {w : World} {H0 : Heap} {a : GA} {h h' : Heap} {σ : NS} (Z : St w H0 a h σ) (G : Grow [a.Nd, a.C, a.M, a.O] h h') : TupIn h h' := by
  refine tup_of G fun b hb => ?_
  simp only [List.mem_cons, List.not_mem_nil, or_false] at hb
  rcases hb with rfl | rfl | rfl | rfl
  · obtain ⟨o, e, d⟩ := Z.hNd
    obtain ⟨_, _, _, _, _, _, _, _, _, _, _, _, _, rfl⟩ := d
    exact ⟨_, e, by simp⟩
  · obtain ⟨vs, n, e, _⟩ := Z.hC
    exact ⟨_, e, by simp⟩
  · obtain ⟨o, e, d⟩ := Z.hM
    exact ⟨_, e, by rw [d.cls]; simp⟩
  · obtain ⟨o, e, d⟩ := Z.hO
    exact ⟨_, e, by rw [d.cls]; simp⟩
theorem St.grow {w : World} {H0 : Heap} {a : GA} {h h' : Heap} {σ : NS} (Z : St w H0 a h σ) {mods : List Nat} (G : Grow mods h h') (t : TupIn h h') (n : ∀ b ∈ [a.N, a.Nd, a.C, a.G, a.Gd, a.M, a.O], b ∉ mods) : St w H0 a h' σ := by
  obtain ⟨ch, ow, hN, ⟨oD, hD, dD⟩, ⟨vs, nC, hC, cC⟩, hG, ⟨oG, hGd, dG⟩, ⟨oM, hM, dM⟩, ⟨oO, hO, dO⟩, c0, c1⟩ := Z
  have k : ∀ b o, b ∈ [a.N, a.Nd, a.C, a.G, a.Gd, a.M, a.O] → h.get? b = some o → h'.get? b = some o := fun b o hb e => G.keep b o (n b hb) e
  exact ⟨ch, ow, k _ _ (by simp) hN, ⟨oD, k _ _ (by simp) hD, dD⟩, ⟨vs, nC, k _ _ (by simp) hC, cC.mono t⟩, k _ _ (by simp) hG, ⟨oG, k _ _ (by simp) hGd, dG⟩, ⟨oM, k _ _ (by simp) hM, dM.mono t⟩, ⟨oO, k _ _ (by simp) hO, dO⟩, c0, c1⟩
theorem St.same {w : World} {H0 : Heap} {a : GA} {h h' : Heap} {σ : NS} (Z : St w H0 a h σ) (G : Grow [] h h') : St w H0 a h' σ :=
  Z.grow G (fun b o e _ => G.keep b o (by simp) e) (by simp)
theorem St.keeps {w : World} {H0 g : Heap} {a : GA} {h h' : Heap} {σ : NS} (Z : St w H0 a h σ) (k : ∀ b o, h.get? b = some o → h'.get? b = some o) (own : a.Own g) : St w g a h' σ := by
  obtain ⟨ch, ow, hN, ⟨oD, hD, dD⟩, ⟨vs, nC, hC, cC⟩, hG, ⟨oG, hGd, dG⟩, ⟨oM, hM, dM⟩, ⟨oO, hO, dO⟩, c0, c1⟩ := Z
  have t : TupIn h h' := fun b o e _ => k b o e
  exact ⟨ch, own, k _ _ hN, ⟨oD, k _ _ hD, dD⟩, ⟨vs, nC, k _ _ hC, cC.mono t⟩, k _ _ hG, ⟨oG, k _ _ hGd, dG⟩, ⟨oM, k _ _ hM, dM.mono t⟩, ⟨oO, k _ _ hO, dO⟩, c0, c1⟩
theorem St.own' {w : World} {H0 g : Heap} {a : GA} {h : Heap} {σ : NS} (Z : St w H0 a h σ) (own : a.Own g) : St w g a h σ := Z.keeps (fun _ _ e => e) own
theorem St.lift {w : World} {H0 : Heap} {a : GA} {h h' : Heap} {σ : NS} (Z : St w H0 a h σ) (t : TupIn h h') (k : ∀ b o, b ∈ [a.N, a.Nd, a.C, a.G, a.Gd, a.M, a.O] → h.get? b = some o → h'.get? b = some o) : St w H0 a h' σ := by
  obtain ⟨ch, ow, hN, ⟨oD, hD, dD⟩, ⟨vs, nC, hC, cC⟩, hG, ⟨oG, hGd, dG⟩, ⟨oM, hM, dM⟩, ⟨oO, hO, dO⟩, c0, c1⟩ := Z
  exact ⟨ch, ow, k _ _ (by simp) hN, ⟨oD, k _ _ (by simp) hD, dD⟩, ⟨vs, nC, k _ _ (by simp) hC, cC.mono t⟩, k _ _ (by simp) hG, ⟨oG, k _ _ (by simp) hGd, dG⟩, ⟨oM, k _ _ (by simp) hM, dM.mono t⟩, ⟨oO, k _ _ (by simp) hO, dO⟩, c0, c1⟩
open Classical in
noncomputable def tupsOf (g h : Heap) : List (Addr × Obj) := (List.range h.objs.size).filterMap fun b => match h.get? b with | some o => if IsT o ∧ g.get? b = none then some (b, o) else none | none => none
theorem mem_tupsOf {g h : Heap} {b : Addr} {o : Obj} : (b, o) ∈ tupsOf g h ↔ h.get? b = some o ∧ IsT o ∧ g.get? b = none := by
  unfold tupsOf
  rw [List.mem_filterMap]
  constructor
  · rintro ⟨c, hc, e⟩
    split at e
    · rename_i o' ho'
      split at e
      · rename_i q; cases e; exact ⟨ho', q⟩
      · cases e
    · cases e
  · rintro ⟨e, q⟩
    refine ⟨b, List.mem_range.mpr (Heap.lt_size e), ?_⟩
    rw [e]; exact if_pos q
/-- the tuples that a frame's calls have left -/
theorem cloud {g h : Heap} {L : Addr} {m : Str → Option Value} {l : List (Addr × Obj)} (F : Fr g L h m) (N : News g L h l) :
    ∃ cl, (∀ p ∈ cl, IsT p.2) ∧ News g L h (l ++ cl) ∧ ∀ h', TupIn g h' → (∀ p ∈ cl, h'.get? p.1 = some p.2) → TupIn h h' := by
  refine ⟨tupsOf g h, fun p hp => (mem_tupsOf.mp hp).2.1, fun p hp => ?_, fun h' k q b o e t => ?_⟩
  · rcases List.mem_append.mp hp with hp | hp
    · exact N p hp
    · have z := mem_tupsOf.mp hp
      refine ⟨z.1, fun e => ?_, z.2.2⟩
      obtain ⟨oL, es, ep, hL, hd, _⟩ := F.ns
      obtain ⟨hh, ⟨_, xs, n, hx⟩, _⟩ := z
      rw [e, hL] at hh
      cases hh
      rw [hd] at hx; cases hx
  · cases z : g.get? b with
    | none => exact q (b, o) (mem_tupsOf.mpr ⟨e, t, z⟩)
    | some o' => have := F.keep _ _ z; rw [e] at this; cases this; exact k _ _ z t

-- Dicts
set_option maxRecDepth 100000
set_option linter.all false
noncomputable def upd {κ : Type} [DecidableEq κ] (m : κ → Option Int) (k : κ) (r : Int) : κ → Option Int := fun x => if x = k then some r else m x

theorem valueAt_append {K : Type} [DecidableEq K] (kvs : List (K × Value)) (k : K) (v : Value) (x : K) (h : valueAt kvs k = none) : valueAt (kvs ++ [(k, v)]) x = if x = k then some v else valueAt kvs x := by
  unfold valueAt at *
  rw [List.find?_append]
  by_cases e : x = k
  · subst e
    cases q : kvs.find? fun kv => kv.1 = x with
    | some p => rw [q] at h; cases h
    | none => simp
  · have e' : ¬ k = x := fun z => e z.symm
    cases q : kvs.find? fun kv => kv.1 = x with
    | some p => simp [e]
    | none => simp [e, e']
theorem any_of_valueAt {K : Type} [DecidableEq K] (kvs : List (K × Value)) (k : K) : (kvs.any fun kv => decide (kv.1 = k)) = (valueAt kvs k).isSome := by
  unfold valueAt
  induction kvs with
  | nil => rfl
  | cons p r ih =>
    rw [List.any_cons, List.find?_cons]
    by_cases e : p.1 = k
    · simp [e]
    · simp only [e, decide_false, Bool.false_or]; exact ih
theorem valueAt_map {K : Type} [DecidableEq K] (kvs : List (K × Value)) (k : K) (v : Value) (x : K) (h : (valueAt kvs k).isSome = true) : valueAt (kvs.map fun kv => if kv.1 = k then (kv.1, v) else kv) x = if x = k then some v else valueAt kvs x := by
  unfold valueAt at *
  induction kvs with
  | nil => cases h
  | cons p r ih =>
    rw [List.map_cons, List.find?_cons, List.find?_cons]
    by_cases e : p.1 = k
    · rw [if_pos e]
      by_cases q : x = k
      · subst q; simp [e]
      · have q1 : ¬ p.1 = x := fun z => q (z ▸ e)
        simp only [q1, decide_false, if_neg q]
        by_cases hs : ((r.find? fun kv => kv.1 = k).map (·.2)).isSome = true
        · rw [ih hs, if_neg q]
        · have hn : k ∉ r.map (·.1) := by
            intro hm
            obtain ⟨y, hy, e'⟩ := List.mem_map.mp hm
            apply hs
            rw [Option.isSome_map, List.find?_isSome]
            exact ⟨y, hy, by simp [e']⟩
          rw [map_store_of_not_mem r k v hn]
    · rw [if_neg e]
      rw [List.find?_cons] at h
      simp only [e, decide_false] at h
      by_cases q : p.1 = x
      · have : ¬ x = k := fun z => e (q.trans z)
        simp [q, this]
      · simp only [q, decide_false]
        exact ih h
theorem valueAt_stored {K : Type} [DecidableEq K] (kvs : List (K × Value)) (k : K) (v : Value) (x : K) : valueAt (stored kvs k v) x = if x = k then some v else valueAt kvs x := by
  unfold stored
  rw [any_of_valueAt]
  by_cases h : (valueAt kvs k).isSome = true
  · rw [if_pos h]; exact valueAt_map kvs k v x h
  · rw [if_neg h]; exact valueAt_append kvs k v x (by simpa using h)

theorem atKey_append {K : Type} [DecidableEq K] (xs : List (K × Addr × Value)) (k : K) (a : Addr) (v : Value) (x : K) (h : atKey xs k = none) : atKey (xs ++ [(k, a, v)]) x = if x = k then some (a, v) else atKey xs x := by
  unfold atKey at *
  rw [List.find?_append]
  by_cases e : x = k
  · subst e
    cases q : xs.find? fun kv => decide (kv.1 = x) with
    | some p => rw [q] at h; cases h
    | none => simp
  · have e' : ¬ k = x := fun z => e z.symm
    cases q : xs.find? fun kv => decide (kv.1 = x) with
    | some p => simp [e]
    | none => simp [e, e']

theorem not_sys {O : Nat} (h : 1 < O) : (O == sysModules) = false := by
  rw [beq_eq_false_iff_ne]; unfold sysModules; intro e; subst e; exact absurd h (by decide)

section
variable {prog : Program} {w : World} {A : Around} {E : Value → Shared → Prop} {s : Shared} {g : Heap} {L : Addr} {O : Nat} {m : Str → Option Value} {news : List (Addr × Obj)} {o : Obj} {mp : Int → Option Int} {n : Nat} {k r : Int} {t u : Tok}
theorem opp_notin {Q : Value → Shared → Prop} (N : News g L s.heap news) (hp : (O, o) ∈ news) (hd : OppObj prog w o mp n) (lo : 1 < O) (h : Q (.bool (!(mp k).isSome)) { s with toks := s.toks + 1 }) :
    wpAny (model prog w) A (compareOp .NotIn (.int k t) (.ref O)) Q E s := by
  obtain ⟨kvs, hd, hl, hv⟩ := hd
  refine kdg_notin (knd := intKind prog w) N hp hd (not_sys lo) (k := k) (by simp [intKind, Value.isInt]) _ ?_ h
  rcases hv k with ⟨a, b⟩ | ⟨r, t, a, b⟩ <;> rw [a, b] <;> rfl
theorem opp_notin0 {Q : Value → Shared → Prop} (N : News g L s.heap news) (hp : (O, o) ∈ news) (hd : OppObj prog w o mp n) (lo : 1 < O) (hk : mp k = none) (h : Q (.bool true) { s with toks := s.toks + 1 }) :
    wpAny (model prog w) A (compareOp .NotIn (.int k t) (.ref O)) Q E s := opp_notin N hp hd lo (by rw [hk]; exact h)
theorem opp_notin1 {Q : Value → Shared → Prop} (N : News g L s.heap news) (hp : (O, o) ∈ news) (hd : OppObj prog w o mp n) (lo : 1 < O) (hk : mp k = some r) (h : Q (.bool false) { s with toks := s.toks + 1 }) :
    wpAny (model prog w) A (compareOp .NotIn (.int k t) (.ref O)) Q E s := opp_notin N hp hd lo (by rw [hk]; exact h)
theorem opp_in {Q : Value → Shared → Prop} (N : News g L s.heap news) (hp : (O, o) ∈ news) (hd : OppObj prog w o mp n) (lo : 1 < O) (h : Q (.bool (mp k).isSome) { s with toks := s.toks + 1 }) :
    wpAny (model prog w) A (compareOp .In (.int k t) (.ref O)) Q E s := by
  obtain ⟨kvs, hd, hl, hv⟩ := hd
  refine kda_in (knd := intKind prog w) N hp hd (not_sys lo) (k := k) (by simp [intKind, Value.isInt]) _ ?_ h
  rcases hv k with ⟨a, b⟩ | ⟨r, t, a, b⟩ <;> rw [a, b] <;> rfl
theorem opp_item {value slice : PySem.Expr} {Q : Value → Shared → Prop} (N : News g L s.heap news) (hp : (O, o) ∈ news) (hd : OppObj prog w o mp n) (hk : mp k = some r) (h : ∀ t', Q (.int r t') { s with toks := s.toks + 1 })
    (hs : subscripted slice false (.ref O) (.int k t) = operate [.ref O, (.int k t)] (getItem (.ref O) (.int k t)) := by with_unfolding_all rfl) (hg : ∀ r, letTemporaryGo value (.ref O) r = pure () := by intro _; with_unfolding_all rfl) :
    wpAny (model prog w) A (subscriptTail value slice (.ref O) (.int k t)) Q E s := by
  obtain ⟨kvs, hd, hl, hv⟩ := hd
  rcases hv k with ⟨a, b⟩ | ⟨r', t', a, b⟩
  · rw [hk] at b; cases b
  · rw [hk] at b; cases b
    exact kda_item (knd := intKind prog w) N hp hd (k := k) (by simp [intKind, Value.isInt]) a (h t') hs hg
theorem opp_method {pl : Sem Bool} {Q : Value × List Value → Shared → Prop} (N : News g L s.heap news) (hp : (O, o) ∈ news) (hd : OppObj prog w o mp n) (h : Q (.builtin "dict.get", [.ref O]) s) : wpAny (model prog w) A (getMethod (.ref O) "get" pl) Q E s := by
  obtain ⟨kvs, hd, hl, hv⟩ := hd
  exact kdg_method (knd := intKind prog w) N hp hd h
theorem opp_get {d : Int} {Q : Value → Shared → Prop} (N : News g L s.heap news) (hp : (O, o) ∈ news) (hd : OppObj prog w o mp n) (lo : 1 < O) (h : ∀ t', Q (.int ((mp k).getD d) t') { s with toks := s.toks + 1 }) :
    wpAny (model prog w) A (call (.builtin "dict.get") [.ref O, .int k t, .int d u]) Q E s := by
  obtain ⟨kvs, hd, hl, hv⟩ := hd
  refine kdg_get2 (knd := intKind prog w) N hp hd (not_sys lo) (k := k) (by simp [intKind, Value.isInt]) _ rfl ?_
  rcases hv k with ⟨a, b⟩ | ⟨r, t, a, b⟩ <;> rw [a] <;> rw [b] at h <;> exact h _
theorem opp_set {gg : Obj → List (Addr × Obj)} {Q : Unit → Shared → Prop} (F : Fr g L s.heap m) (N : News g L s.heap news) (U : UpdF O o news gg) (hd : OppObj prog w o mp n) (hsz : n ≤ 1000000)
    (h : ∀ h' o', Fr g L h' m → News g L h' (gg o') → OppObj prog w o' (upd mp k r) (n + 1) → Q () { s with heap := h', toks := s.toks + 1 }) : wpAny (model prog w) A (setItem (.ref O) (.int k t) (.int r u)) Q E s := by
  obtain ⟨kvs, hd, hl, hv⟩ := hd
  refine kda_set (knd := intKind prog w) F N U hd (k := k) (by simp [intKind, Value.isInt]) (by rw [sizeLine_eq]; omega) fun h' o' F' N' hd' => h h' o' F' N' ⟨_, hd', Nat.le_trans (stored_length_le _ _ _) (by omega), fun x => ?_⟩
  rw [valueAt_stored]
  unfold upd
  by_cases e : x = k
  · rw [if_pos e, if_pos e]; exact .inr ⟨r, u, rfl, rfl⟩
  · rw [if_neg e, if_neg e]; exact hv x
end

section
variable {prog : Program} {w : World} {A : Around} {E : Value → Shared → Prop} {s : Shared} {g : Heap} {L : Addr} {M T : Nat} {m : Str → Option Value} {news : List (Addr × Obj)} {o : Obj} {mp : List SI → Option Int} {n : Nat} {k : List SI} {r : Int} {t u : Tok}
theorem MadeObj.dictOf {h : Heap} (e : h.get? M = some o) (hd : MadeObj prog w h o mp n) : ∃ xs, h.DictOfH (tupleKind (siKind prog w)) M xs ∧ xs.length ≤ n ∧ ∀ k, (atKey xs k = none ∧ mp k = none) ∨ ∃ a r t, atKey xs k = some (a, .int r t) ∧ mp k = some r := by
  obtain ⟨xs, es, ep, a, b, c, d, e', l, f⟩ := hd
  exact ⟨xs, ⟨o, es, ep, e, a, b, c, d, e'⟩, l, f⟩
theorem made_notin {Q : Value → Shared → Prop} (hu : A.units + 1 < cLine) (N : News g L s.heap news) (hp : (M, o) ∈ news) (hd : MadeObj prog w s.heap o mp n) (hk : IsTupleKey (siKind prog w) s.heap k T) (lo : 1 < M)
    (h : ∀ tk, Q (.bool (!(mp k).isSome)) { s with toks := tk }) : wpAny (model prog w) A (compareOp .NotIn (.ref T) (.ref M)) Q E s := by
  obtain ⟨xs, hd, hl, hv⟩ := hd.dictOf (N _ hp).1
  refine wpAny_notIn_heap (knd := tupleKind (siKind prog w)) hu hk (not_sys lo) hd ?_
  rcases hv k with ⟨a, b⟩ | ⟨a', r, t, a, b⟩ <;> rw [a] <;> rw [b] at h <;> exact h _
theorem made_notin0 {Q : Value → Shared → Prop} (hu : A.units + 1 < cLine) (N : News g L s.heap news) (hp : (M, o) ∈ news) (hd : MadeObj prog w s.heap o mp n) (hk : IsTupleKey (siKind prog w) s.heap k T) (lo : 1 < M) (hn : mp k = none)
    (h : ∀ tk, Q (.bool true) { s with toks := tk }) : wpAny (model prog w) A (compareOp .NotIn (.ref T) (.ref M)) Q E s := made_notin hu N hp hd hk lo (by rw [hn]; exact h)
theorem made_notin1 {Q : Value → Shared → Prop} (hu : A.units + 1 < cLine) (N : News g L s.heap news) (hp : (M, o) ∈ news) (hd : MadeObj prog w s.heap o mp n) (hk : IsTupleKey (siKind prog w) s.heap k T) (lo : 1 < M) (hn : mp k = some r)
    (h : ∀ tk, Q (.bool false) { s with toks := tk }) : wpAny (model prog w) A (compareOp .NotIn (.ref T) (.ref M)) Q E s := made_notin hu N hp hd hk lo (by rw [hn]; exact h)
theorem made_item {value slice : PySem.Expr} {Q : Value → Shared → Prop} (hu : A.units + 1 < cLine) (N : News g L s.heap news) (hp : (M, o) ∈ news) (hd : MadeObj prog w s.heap o mp n) (hk : IsTupleKey (siKind prog w) s.heap k T) (hr : mp k = some r)
    (h : ∀ t tk, Q (.int r t) { s with toks := tk })
    (hs : subscripted slice false (.ref M) (.ref T) = operate [.ref M, .ref T] (getItem (.ref M) (.ref T)) := by with_unfolding_all rfl) (hg : ∀ r, letTemporaryGo value (.ref M) r = pure () := by intro _; with_unfolding_all rfl) :
    wpAny (model prog w) A (subscriptTail value slice (.ref M) (.ref T)) Q E s := by
  obtain ⟨xs, hd, hl, hv⟩ := hd.dictOf (N _ hp).1
  rcases hv k with ⟨a, b⟩ | ⟨a', r', t', a, b⟩
  · rw [hr] at b; cases b
  · rw [hr] at b; cases b
    exact subscriptTail_builtin hd.typeIs slot_dict_getitem.lookup (wpAny_getItem_heap hu hk hd a (h _ _)) hs hg
theorem made_set {gg : Obj → List (Addr × Obj)} {Q : Unit → Shared → Prop} (hu : A.units + 1 < cLine) (F : Fr g L s.heap m) (N : News g L s.heap news) (U : UpdF M o news gg) (hd : MadeObj prog w s.heap o mp n) (hk : IsTupleKey (siKind prog w) s.heap k T) (hn : mp k = none) (hsz : n ≤ 1000000)
    (h : ∀ h' o' tk, Fr g L h' m → News g L h' (gg o') → MadeObj prog w h' o' (upd mp k r) (n + 1) → Heap.SameBut M s.heap h' → Q () { s with heap := h', toks := tk }) : wpAny (model prog w) A (setItem (.ref M) (.ref T) (.int r u)) Q E s := by
  obtain ⟨pre, post, rfl, hg, a, b⟩ := U.split
  have hm := N (M, o) (List.mem_append_right _ (.head _))
  obtain ⟨xs, hd, hl, hv⟩ := hd.dictOf hm.1
  refine wpAny_setItem_heap (knd := tupleKind (siKind prog w)) (hsz := by rw [sizeLine_eq]; omega) hu hk hd fun h' hmm hs => ?_
  obtain ⟨o', es, ep, ho', h1, h2, h3, h4, h5⟩ := hmm
  have hno : atKey xs k = none := by
    rcases hv k with ⟨a, b⟩ | ⟨a', r', t', a, b⟩
    · exact a
    · rw [hn] at b; cases b
  refine h h' o' _ (F.change hs hm.2.1 hm.2.2) (hg o' ▸ N.setIn a b hs ho') ⟨_, es, ep, h1, h2, h3, h4, h5, ?_, fun x => ?_⟩ hs
  · rw [storedH_new hno]; simp; omega
  · rw [storedH_new hno, atKey_append _ _ _ _ _ hno]
    unfold upd
    by_cases e : x = k
    · rw [if_pos e, if_pos e]; exact .inr ⟨T, r, u, rfl, rfl⟩
    · rw [if_neg e, if_neg e]; exact hv x
end
theorem tupFr {g h : Heap} {L : Addr} {m : Str → Option Value} (F : Fr g L h m) : TupIn g h := fun b o e _ => F.keep b o e
inductive NoTup : List (Addr × Obj) → Prop where
  | nil : NoTup []
  | cons {a : Addr} {o : Obj} {r : List (Addr × Obj)} (n : o.cls ≠ .type "tuple") (x : NoTup r) : NoTup ((a, o) :: r)
theorem NoTup.all {l : List (Addr × Obj)} (x : NoTup l) : ∀ q ∈ l, q.2.cls ≠ .type "tuple" := by
  induction x with
  | nil => intro q hq; cases hq
  | cons n _ ih => intro q hq; rcases List.mem_cons.mp hq with rfl | hq; exact n; exact ih q hq
theorem tupG {H0 g h : Heap} {hid : List (Addr × Obj)} (led : Led H0 h hid) (hg : ∀ b o, h.get? b = some o → b ∉ hid.map (·.1) → g.get? b = some o) (nt : NoTup hid) : TupIn h g := fun b o e hc => by
  refine hg b o e fun q => ?_
  obtain ⟨x, hx, rfl⟩ := List.mem_map.mp q
  have := (led.all x hx).1
  rw [e] at this; cases this
  exact nt.all x hx hc.1
section
variable {prog : Program} {w : World}
theorem tupKey3 {g h : Heap} {L T : Addr} {x : Str} {t u v : Tok} {i j : Int} {n : Nat} {news : List (Addr × Obj)} (N : News g L h news) (hm : (T, tupOf [.str x t, .int i u, .int j v] n) ∈ news) : IsTupleKey (siKind prog w) h [.s x, .i i, .i j] T :=
  ⟨_, _, _, newsAt N hm, rfl, rfl, .cons (by simp [siKind, SI.is, Value.isStrOf]) (.cons (by simp [siKind, SI.is, Value.isInt]) (.cons (by simp [siKind, SI.is, Value.isInt]) .nil))⟩
theorem tupKey4 {g h : Heap} {L T : Addr} {x : Str} {t u v y : Tok} {i j k : Int} {n : Nat} {news : List (Addr × Obj)} (N : News g L h news) (hm : (T, tupOf [.str x t, .int i u, .int j v, .int k y] n) ∈ news) : IsTupleKey (siKind prog w) h [.s x, .i i, .i j, .i k] T :=
  ⟨_, _, _, newsAt N hm, rfl, rfl, .cons (by simp [siKind, SI.is, Value.isStrOf]) (.cons (by simp [siKind, SI.is, Value.isInt]) (.cons (by simp [siKind, SI.is, Value.isInt]) (.cons (by simp [siKind, SI.is, Value.isInt]) .nil)))⟩
end
section
variable {prog : Program} {w : World} {A : Around} {E : Value → Shared → Prop} {s : Shared} {h₀ : Heap} {L : Addr} {m : Str → Option Value} {news : List (Addr × Obj)} {a b : Int} {t u : Tok} {Q : Value → Shared → Prop}
theorem min_N (hh : A.handled = none) (F : Fr h₀ L s.heap m) (N : News h₀ L s.heap news) (h : ∀ h' tk t', Fr h₀ L h' m → News h₀ L h' news → Q (.int (min a b) t') { s with heap := h', toks := tk }) :
    wpAny (model prog w) A (call (.builtin "min") [.int a t, .int b u]) Q E s :=
  min_two_N hh F N fun h' tk F' N' => by
    rw [show (if b < a then b else a) = min a b from by split <;> omega]; exact h _ _ _ F' N'
theorem max_N (hh : A.handled = none) (F : Fr h₀ L s.heap m) (N : News h₀ L s.heap news) (h : ∀ h' tk t', Fr h₀ L h' m → News h₀ L h' news → Q (.int (max a b) t') { s with heap := h', toks := tk }) :
    wpAny (model prog w) A (call (.builtin "max") [.int a t, .int b u]) Q E s :=
  max_two_N hh F N fun h' tk F' N' => by
    rw [show (if b > a then b else a) = max a b from by split <;> omega]; exact h _ _ _ F' N'
end

-- Seqs
set_option maxRecDepth 100000
set_option linter.all false
/-- a mark: the walk stops here -/
structure Hold (P : Prop) : Prop where
  out : P
section
variable {prog : Program} {w : World} {A : Around} {E : Value → Shared → Prop} {s : Shared} {g : Heap} {L : Addr} {T : Nat} {m : Str → Option Value} {news : List (Addr × Obj)} {vs : List Value} {n : Nat} {u : Tok} {v : Value}
theorem tup_len {Q : Value → Shared → Prop} (ht : s.heap.get? T = some (tupOf vs n)) (hfit : vs.length ≤ 1000000) (h : ∀ t tk, Q (.int vs.length t) { s with toks := tk }) : wpAny (model prog w) A (call (.builtin "len") [.ref T]) Q E s :=
  len_tuple (items := vs.toArray) ⟨_, ht, rfl, _, rfl⟩ (by rw [List.size_toArray]; omega) (by rw [List.size_toArray]; exact h _ _)
theorem list_len {Q : Value → Shared → Prop} (N : News g L s.heap news) (hm : (T, listOf vs.toArray n) ∈ news) (hfit : vs.length ≤ 1000000) (h : ∀ t tk, Q (.int vs.length t) { s with toks := tk }) : wpAny (model prog w) A (call (.builtin "len") [.ref T]) Q E s :=
  call_len_list (items := vs.toArray) ⟨_, newsAt N hm, rfl, _, rfl⟩ (by rw [List.size_toArray]; omega) (by rw [List.size_toArray]; exact h _ _)
theorem tup_item {value slice : PySem.Expr} {i : Nat} {Q : Value → Shared → Prop} (ht : s.heap.get? T = some (tupOf vs n)) (hx : vs[i]? = some v) (hi : i ≤ 1000000) (h : Q v s)
    (hs : subscripted slice false (.ref T) (.int (i : Int) u) = operate [.ref T, .int (i : Int) u] (getItem (.ref T) (.int (i : Int) u)) := by with_unfolding_all rfl) :
    wpAny (model prog w) A (subscriptTail value slice (.ref T) (.int (i : Int) u)) Q E s := by
  have hl : i < vs.length := (List.getElem?_eq_some_iff.mp hx).1
  refine item_tupleT (l := vs) (j := i) ⟨_, ht, rfl, _, rfl⟩ (by omega) (by omega) ?_ hx h hs
  unfold seqIndex?
  simp
  omega
theorem list_item {value slice : PySem.Expr} {i : Nat} {Q : Value → Shared → Prop} (N : News g L s.heap news) (hm : (T, listOf vs.toArray n) ∈ news) (hx : vs[i]? = some v) (hi : i ≤ 1000000) (h : Q v s)
    (hs : subscripted slice false (.ref T) (.int (i : Int) u) = operate [.ref T, .int (i : Int) u] (getItem (.ref T) (.int (i : Int) u)) := by with_unfolding_all rfl) :
    wpAny (model prog w) A (subscriptTail value slice (.ref T) (.int (i : Int) u)) Q E s :=
  have hL : s.heap.IsList T vs.toArray := ⟨_, newsAt N hm, rfl, _, rfl⟩
  tail_any hL.typeIs slot_list_getitem.lookup (wpAny_getItem_list hL (by omega) (by omega) (by simpa using hx) h) hs
theorem Ints.are {vs : List Value} {ks : List Int} (x : Ints vs ks) : IntsAre vs ks := by
  induction x with
  | nil => exact .nil
  | cons _ ih => exact .cons _ _ ih
theorem tup_notin {c : Int} {ks : List Int} {Q : Value → Shared → Prop} (ht : s.heap.get? T = some (tupOf vs n)) (iv : Ints vs ks) (h : Q (.bool (!(ks.any (· == c)))) s) : wpAny (model prog w) A (compareOp .NotIn (.int c u) (.ref T)) Q E s :=
  notin_tuple_ints (items := vs.toArray) ⟨_, ht, rfl, _, rfl⟩ (by simpa using iv.are) h
end

section
variable {prog : Program} {w : World} {A : Around} {E : Value → Shared → Prop} {s : Shared} {env : Env} {g : Heap} {x : Str} {body : List Stmt} {Q : Flow → Shared → Prop}

inductive AllIn (l : List (Addr × Obj)) : List (Addr × Obj) → Prop where
  | nil : AllIn l []
  | cons {p : Addr × Obj} {r : List (Addr × Obj)} (hm : p ∈ l) (x : AllIn l r) : AllIn l (p :: r)
theorem AllIn.news {g h : Heap} {L : Addr} {l r : List (Addr × Obj)} (x : AllIn l r) (N : News g L h l) : News g L h r := by
  induction x with
  | nil => exact News.nil
  | cons hm _ ih =>
    intro q hq
    rcases List.mem_cons.mp hq with rfl | hq
    · exact N _ hm
    · exact ih q hq

/-- a turn's end: the word at the new letters -/
noncomputable def End (g : Heap) (L : Addr) (J : (Str → Option Value) → List (Addr × Obj) → Prop) (I : Nat) (oI : Obj) (s₁ s₂ : Shared) : Prop :=
  ∃ h' tk m' news', s₂ = { s₁ with heap := h', toks := tk } ∧ Fr g L h' m' ∧ News g L h' (news' ++ [(I, oI)]) ∧ AllNe I news' ∧ J m' news'
noncomputable def Post (g : Heap) (L : Addr) (J : (Str → Option Value) → List (Addr × Obj) → Prop) (I : Nat) (oI : Obj) (s₁ : Shared) (Q : Flow → Shared → Prop) (f : Flow) (s₂ : Shared) : Prop :=
  match f with
  | .ret v => Q (.ret v) s₂
  | .brk => Q .next s₂
  | _ => End g L J I oI s₁ s₂

theorem allNe_mem {a : Nat} {l : List (Addr × Obj)} (h : AllNe a l) : ∀ p ∈ l, @Ne Nat p.1 a := by
  induction l with
  | nil => intro p hp; cases hp
  | cons q r ih =>
    intro p hp
    rcases List.mem_cons.mp hp with rfl | hp
    · exact h.1
    · exact ih h.2 p hp
theorem allNe_of_mem {a : Nat} {l : List (Addr × Obj)} (h : ∀ p ∈ l, @Ne Nat p.1 a) : AllNe a l := by
  induction l with
  | nil => trivial
  | cons q r ih => exact ⟨h _ (.head _), ih fun p hp => h p (.tail _ hp)⟩

/-- a loop whose iterator alone is written -/
theorem loop_one {I : Addr} {fp : List Addr} {n : Nat} {P : Nat → Value → Prop} {W0 : Nat → Heap → Prop} {C : Obj → Prop} {m₀ : Str → Option Value} {news : List (Addr × Obj)} (J : Nat → (Str → Option Value) → List (Addr × Obj) → Prop)
    (W : Walks prog w A I fp [I] n P W0) (hLf : env.locals ∉ fp) (hI : g.get? I = none) (hfp : ∀ b ∈ fp, b = I ∨ g.get? b ≠ none) (hnw : AllNe I news) (hst : W0 0 s.heap) (hC : ∀ i h, W0 i h → ∃ o, h.get? I = some o ∧ C o)
    (F : Fr g env.locals s.heap m₀) (N : News g env.locals s.heap news) (h0 : J 0 m₀ news)
    (turn : ∀ i v m₁ news₁ h tk oI, i < n → P i v → J i m₁ news₁ → C oI → AllNe I news₁ → Fr g env.locals h (fun y => if y = x then some v else m₁ y) → News g env.locals h (news₁ ++ [(I, oI)]) →
      wpAny (model prog w) A (execs body env) (Post g env.locals (J (i + 1)) I oI { s with heap := h, toks := tk } Q) E { s with heap := h, toks := tk })
    (done : ∀ m₁ news₁ h tk, J n m₁ news₁ → Fr g env.locals h m₁ → News g env.locals h news₁ → Q .next { s with heap := h, toks := tk }) :
    LoopAtV prog w A g env x body Q E (.ref I) s := by
  refine ⟨I, fp, [I], n, P, W0, m₀, news, J, rfl, W, hLf, fun b hb => (List.mem_singleton.mp hb) ▸ hI, fun p hp hq => allNe_mem hnw p hp (List.mem_singleton.mp hq), hst, F, N, h0, ?_, ?_⟩
  · rintro i v m₁ news₁ s₁ own ⟨hh', tk', rfl⟩ hin hP hJ hoff hsub hown hall hst' F₁ N₁
    obtain ⟨oI, hoI, hc⟩ := hC _ _ hst'
    have hIf : I ∈ fp := W.sub _ (.head _)
    have hmem : (I, oI) ∈ own := hall I hIf hI oI hoI
    have hne : AllNe I news₁ := allNe_of_mem fun p hp e => hoff p hp (e ▸ .head _)
    have hin' : ∀ p ∈ own, g.get? p.1 = none := fun p hp => (N₁ p (List.mem_append_left _ hp)).2.2
    have hone : ∀ p ∈ own, p = (I, oI) := fun p hp => by
      rcases hfp p.1 (hsub p hp) with e | e
      · have := hown p hp
        rw [e] at this
        have q : p.2 = oI := Option.some.inj (this.symm.trans hoI)
        exact Prod.ext e q
      · exact absurd (hin' p hp) e
    refine wpAny_mono (turn i v m₁ news₁ hh' tk' oI hin hP hJ hc hne F₁ (fun p hp => ?_)) (fun f s₂ q => ?_) fun _ _ e => e
    · rcases List.mem_append.mp hp with hp | hp
      · exact N₁ p (List.mem_append_right _ hp)
      · exact N₁ p (List.mem_append_left _ ((List.mem_singleton.mp hp) ▸ hmem))
    · have fin : End g env.locals (J (i + 1)) I oI { s with heap := hh', toks := tk' } s₂ → LoopStepU g env.locals [I] own (J (i + 1)) { s with heap := hh', toks := tk' } .next s₂ := by
        rintro ⟨h', tk, m', news', e, F', N', hn, hm⟩
        refine ⟨rfl, h', tk, m', news', e, F', fun p hp => ?_, fun p hp hq => allNe_mem hn p hp (List.mem_singleton.mp hq), hm⟩
        rcases List.mem_append.mp hp with hp | hp
        · rw [hone p hp]; exact N' _ (List.mem_append_right _ (.head _))
        · exact N' p (List.mem_append_left _ hp)
      cases f with
      | ret v => exact .ret q
      | brk => exact .brk q
      | next => exact .next (fin q)
      | cont => exact .cont (fin q)
  · rintro h' tk m' news' F' N' _ hJ
    exact done m' news' h' tk hJ F' N'

/-- the map of a loop's frame: x the loop's own name, stored what a turn stores -/
theorem map_eq {m₁ m₀ : Str → Option Value} {x : Str} {stored : List Str} {v : Option Value} (hm : ∀ y, y ≠ x → stored.contains y = false → m₁ y = m₀ y) : (fun y => if y = x then v else m₁ y) = fun y => if y = x then v else if stored.contains y then m₁ y else m₀ y := by
  funext y
  by_cases h1 : y = x
  · simp [h1]
  · simp only [if_neg h1]
    cases h2 : stored.contains y with
    | true => simp
    | false => simp only [Bool.false_eq_true, if_false]; exact hm y h1 h2
theorem map_eq' {m₁ m₀ : Str → Option Value} {x : Str} {stored : List Str} (hm : ∀ y, y ≠ x → stored.contains y = false → m₁ y = m₀ y) : m₁ = fun y => if y = x then m₁ y else if stored.contains y then m₁ y else m₀ y := by
  have e := map_eq (v := m₁ x) hm
  rw [← show (fun y => if y = x then m₁ x else if stored.contains y then m₁ y else m₀ y) = (fun y => if y = x then m₁ y else if stored.contains y then m₁ y else m₀ y) from by
    funext y; by_cases h : y = x
    · subst h; simp
    · simp [h], ← e]
  funext y; by_cases h : y = x
  · subst h; simp
  · simp [h]

theorem for_range {r : Addr} {b₀ : Int} {t₀ u₀ v₀ : Tok} {n : Nat} {m₀ : Str → Option Value} {news : List (Addr × Obj)} (stored : List Str) (J : Nat → (Str → Option Value) → List (Addr × Obj) → Prop)
    (hh : A.handled = none) (hr : IsRange s.heap r 0 b₀ 1 t₀ u₀ v₀) (hb : b₀ = (n : Int)) (hn : n ≤ 1000000) (F : Fr g env.locals s.heap m₀) (N : News g env.locals s.heap news) (h0 : J 0 m₀ news)
    (turn : ∀ (i : Nat) t (u : Str → Option Value) news₁ h tk (I : Nat) oI, i < n → J i u news₁ → oI.cls = .type "range_iterator" → AllNe I news₁ → Fr g env.locals h (fun y => if y = x then some (.int (i : Int) t) else if stored.contains y then u y else m₀ y) → News g env.locals h (news₁ ++ [(I, oI)]) →
      wpAny (model prog w) A (execs body env) (Post g env.locals (fun m' nx => J (i + 1) m' nx ∧ ∀ y, y ≠ x → stored.contains y = false → m' y = m₀ y) I oI { s with heap := h, toks := tk } Q) E { s with heap := h, toks := tk })
    (done : ∀ (u : Str → Option Value) news₁ h tk, J n u news₁ → Fr g env.locals h (fun y => if y = x then u y else if stored.contains y then u y else m₀ y) → News g env.locals h news₁ → Q .next { s with heap := h, toks := tk }) :
    wpAny (model prog w) A (pyIter (.ref r)) (fun it s₂ => LoopAtV prog w A g env x body Q E it s₂) E s := by
  subst hb
  have hsmall : Builtin.Range.small 0 (n : Int) 1 = true := small_one (by omega) (by omega) (by omega) (by omega)
  refine wpAny_pyIter_range hr hsmall ?_
  have hsz : Builtin.Range.rangeSize 0 (n : Int) 1 = (n : Int) := by
    unfold Builtin.Range.rangeSize
    simp
    omega
  have W : Walks prog w A s.heap.objs.size [s.heap.objs.size] [s.heap.objs.size] n (fun i v => ∃ t, v = .int (0 + i * 1) t)
      (fun i h => IsRangeIter h s.heap.objs.size (0 + (i : Nat) * 1) ((n : Int) - (i : Nat)) 1) := Walks.range hh _ 0 1 n
  refine loop_one (C := fun o => o.cls = .type "range_iterator") (fun i m nx => J i m nx ∧ ∀ y, y ≠ x → stored.contains y = false → m y = m₀ y) W ?_ (next_is_new F) (fun b hb => .inl (List.mem_singleton.mp hb)) (allNe_of_mem fun p hp => Nat.ne_of_lt (Heap.lt_size (N p hp).1)) (by show IsRangeIter _ _ _ _ _; rw [hsz]; simpa using Heap.get?_push_size _ rfl) (fun i h st => ⟨_, st, rfl⟩) (F.push _) (fun p hp => ⟨Heap.get?_push_of_some _ (N p hp).1, (N p hp).2⟩) ⟨h0, fun _ _ _ => rfl⟩ ?_ ?_
  · intro hm
    exact absurd F.ns.lt ((List.mem_singleton.mp hm) ▸ Nat.lt_irrefl _)
  · rintro i v m₁ news₁ h tk oI hi ⟨t, rfl⟩ ⟨hJ, hm⟩ hc hne F₁ N₁
    have e : (0 + (i : Int) * 1) = (i : Int) := by omega
    rw [e, map_eq hm] at F₁
    exact turn i t m₁ news₁ h tk _ oI hi hJ hc hne F₁ N₁
  · rintro m₁ news₁ h tk ⟨hJ, hm⟩ F₁ N₁
    rw [map_eq' hm] at F₁
    exact done m₁ news₁ h tk hJ F₁ N₁
end
theorem neOf {a d : Nat} (h : a ∉ [d]) : a ≠ d := fun e => h (List.mem_singleton.mpr e)
theorem nin1' {x a : Nat} (h : x ≠ a) : x ∉ [a] := fun e => h (List.mem_singleton.mp e)
theorem ninQC {x a : Nat} {l : List Nat} (h : x ≠ a) (t : x ∉ l) : x ∉ a :: l := fun e => (List.mem_cons.mp e).elim h t
theorem ninQ2 {x a b : Nat} (h1 : x ≠ a) (h2 : x ≠ b) : x ∉ [a, b] := ninQC h1 (nin1' h2)
theorem ninQ4 {x a b c d : Nat} (h1 : x ≠ a) (h2 : x ≠ b) (h3 : x ≠ c) (h4 : x ≠ d) : x ∉ [a, b, c, d] := ninQC h1 (ninQC h2 (ninQ2 h3 h4))
theorem offs {Nd N I U C NL Gd G M O : Nat} (o1 : Nd < N) (o2 : N < I) (o3 : I < U) (o4 : U < C) (o5 : C < NL) (o6 : NL < Gd) (o7 : Gd < G) (o8 : G < M) (o9 : M < O) :
    N ∉ [Nd, C, M, O] ∧ Gd ∉ [Nd, C, M, O] ∧ G ∉ [Nd, C, M, O] ∧ I ∉ [Nd, C, M, O] ∧ N ∉ [Nd, C] ∧ Gd ∉ [Nd, C] ∧ G ∉ [Nd, C] ∧ M ∉ [Nd, C] ∧ O ∉ [Nd, C] := by
  have a1 := Nat.lt_trans o3 o4
  have a2 := Nat.lt_trans o2 a1
  have a3 := Nat.lt_trans o5 o6
  have a4 := Nat.lt_trans a3 o7
  have a5 := Nat.lt_trans a4 o8
  have a6 := Nat.lt_trans a5 o9
  have b1 := Nat.lt_trans o1 a2
  have b2 := Nat.lt_trans b1 a3
  have b3 := Nat.lt_trans b2 o7
  have b4 := Nat.lt_trans b3 o8
  have b5 := Nat.lt_trans b4 o9
  have c1 := Nat.lt_trans o7 o8
  exact ⟨ninQ4 (Nat.ne_of_gt o1) (Nat.ne_of_lt a2) (Nat.ne_of_lt (Nat.lt_trans a2 a5)) (Nat.ne_of_lt (Nat.lt_trans a2 a6)),
    ninQ4 (Nat.ne_of_gt b2) (Nat.ne_of_gt a3) (Nat.ne_of_lt c1) (Nat.ne_of_lt (Nat.lt_trans c1 o9)),
    ninQ4 (Nat.ne_of_gt b3) (Nat.ne_of_gt a4) (Nat.ne_of_lt o8) (Nat.ne_of_lt (Nat.lt_trans o8 o9)),
    ninQ4 (Nat.ne_of_gt (Nat.lt_trans o1 o2)) (Nat.ne_of_lt a1) (Nat.ne_of_lt (Nat.lt_trans a1 a5)) (Nat.ne_of_lt (Nat.lt_trans a1 a6)),
    ninQ2 (Nat.ne_of_gt o1) (Nat.ne_of_lt a2), ninQ2 (Nat.ne_of_gt b2) (Nat.ne_of_gt a3), ninQ2 (Nat.ne_of_gt b3) (Nat.ne_of_gt a4),
    ninQ2 (Nat.ne_of_gt b4) (Nat.ne_of_gt a5), ninQ2 (Nat.ne_of_gt b5) (Nat.ne_of_gt a6)⟩
theorem offM {Nd N C Gd G M O : Nat} (o1 : Nd < N) (o2 : N < C) (o3 : C < Gd) (o4 : Gd < G) (o5 : G < M) (o6 : M < O) :
    (Nd ∉ [M] ∧ N ∉ [M] ∧ C ∉ [M] ∧ Gd ∉ [M] ∧ G ∉ [M] ∧ O ∉ [M]) ∧ Nd ∉ [O] ∧ N ∉ [O] ∧ C ∉ [O] ∧ Gd ∉ [O] ∧ G ∉ [O] ∧ M ∉ [O] := by
  have a1 := Nat.lt_trans o4 o5
  have a2 := Nat.lt_trans o3 a1
  have a3 := Nat.lt_trans o2 a2
  have a4 := Nat.lt_trans o1 a3
  exact ⟨⟨nin1' (Nat.ne_of_lt a4), nin1' (Nat.ne_of_lt a3), nin1' (Nat.ne_of_lt a2), nin1' (Nat.ne_of_lt a1), nin1' (Nat.ne_of_lt o5), nin1' (Nat.ne_of_gt o6)⟩,
    nin1' (Nat.ne_of_lt (Nat.lt_trans a4 o6)), nin1' (Nat.ne_of_lt (Nat.lt_trans a3 o6)), nin1' (Nat.ne_of_lt (Nat.lt_trans a2 o6)), nin1' (Nat.ne_of_lt (Nat.lt_trans a1 o6)), nin1' (Nat.ne_of_lt (Nat.lt_trans o5 o6)), nin1' (Nat.ne_of_lt o6)⟩
section
variable {α : Type} {x a1 a2 a3 a4 a5 a6 a7 a8 a9 b1 b2 b3 b4 b5 b6 b7 b8 b9 : α} {l : List α}
theorem mem1 : x ∈ a1 :: x :: l := List.mem_cons_of_mem _ List.mem_cons_self
theorem mem2 : x ∈ a1 :: a2 :: x :: l := List.mem_cons_of_mem _ mem1
theorem mem3 : x ∈ a1 :: a2 :: a3 :: x :: l := List.mem_cons_of_mem _ mem2
theorem mem4 : x ∈ a1 :: a2 :: a3 :: a4 :: x :: l := List.mem_cons_of_mem _ mem3
theorem mem5 : x ∈ a1 :: a2 :: a3 :: a4 :: a5 :: x :: l := List.mem_cons_of_mem _ mem4
theorem mem6 : x ∈ a1 :: a2 :: a3 :: a4 :: a5 :: a6 :: x :: l := List.mem_cons_of_mem _ mem5
theorem mem7 : x ∈ a1 :: a2 :: a3 :: a4 :: a5 :: a6 :: a7 :: x :: l := List.mem_cons_of_mem _ mem6
theorem mem8 : x ∈ a1 :: a2 :: a3 :: a4 :: a5 :: a6 :: a7 :: a8 :: x :: l := List.mem_cons_of_mem _ mem7
theorem mem9 : x ∈ a1 :: a2 :: a3 :: a4 :: a5 :: a6 :: a7 :: a8 :: a9 :: x :: l := List.mem_cons_of_mem _ mem8
theorem mem10 : x ∈ a1 :: a2 :: a3 :: a4 :: a5 :: a6 :: a7 :: a8 :: a9 :: b1 :: x :: l := List.mem_cons_of_mem _ mem9
theorem mem11 : x ∈ a1 :: a2 :: a3 :: a4 :: a5 :: a6 :: a7 :: a8 :: a9 :: b1 :: b2 :: x :: l := List.mem_cons_of_mem _ mem10
theorem mem12 : x ∈ a1 :: a2 :: a3 :: a4 :: a5 :: a6 :: a7 :: a8 :: a9 :: b1 :: b2 :: b3 :: x :: l := List.mem_cons_of_mem _ mem11
theorem mem13 : x ∈ a1 :: a2 :: a3 :: a4 :: a5 :: a6 :: a7 :: a8 :: a9 :: b1 :: b2 :: b3 :: b4 :: x :: l := List.mem_cons_of_mem _ mem12
theorem mem14 : x ∈ a1 :: a2 :: a3 :: a4 :: a5 :: a6 :: a7 :: a8 :: a9 :: b1 :: b2 :: b3 :: b4 :: b5 :: x :: l := List.mem_cons_of_mem _ mem13
end
theorem callH {M : Model} {A : Around} {f : Value} {pos : List Value} {Q : Value → Shared → Prop} {E : Value → Shared → Prop} {s : Shared}
    (h : codeAny M A (.call f ⟨pos, []⟩) (RetTo Q) s) : Hold (wpAny M A (call f pos) Q E s) := ⟨callR h⟩
section
variable {P : Prop} {w : World} {H0 h : Heap} {a : GA} {σ : NS}
theorem St.elimD (Z : St w H0 a h σ) (k : ∀ (vs : List Value) nC oM oO h1 h2 h3 h4 h5 t1 t2 t3 t4 t5 x tx tc g1 g2 g3 u1 u2 u3, h.get? a.N = some (instObj 162 a.Nd) → h.get? a.Nd = some (dictOf [⟨h1, .str (Str.ofString "name") t1, .str x tx⟩, ⟨h2, .str (Str.ofString "count") t2, .int σ.count tc⟩, ⟨h3, .str (Str.ofString "inputs") t3, .ref a.I⟩, ⟨h4, .str (Str.ofString "outputs") t4, .ref a.U⟩, ⟨h5, .str (Str.ofString "cells") t5, .ref a.C⟩] 5) →
    h.get? a.C = some (listOf vs.toArray nC) → CellsAt h vs σ.cells → h.get? a.G = some (instObj 239 a.Gd) → h.get? a.Gd = some (dictOf [⟨g1, .str (Str.ofString "netlist") u1, .ref a.N⟩, ⟨g2, .str (Str.ofString "made") u2, .ref a.M⟩, ⟨g3, .str (Str.ofString "opposite") u3, .ref a.O⟩] 3) →
    h.get? a.M = some oM → MadeObj PySem.Challenge.rw_on0108_01.row.prog w h oM σ.made σ.cells.length → h.get? a.O = some oO → OppObj PySem.Challenge.rw_on0108_01.row.prog w oO σ.opp (2 * σ.cells.length) → 2 ≤ σ.count → σ.count ≤ 10 + σ.cells.length →
    H0.get? a.Nd = none → H0.get? a.N = none → H0.get? a.C = none → H0.get? a.Gd = none → H0.get? a.G = none → H0.get? a.M = none → H0.get? a.O = none →
    a.Nd < a.N → a.N < a.C → a.C < a.Gd → a.Gd < a.G → a.G < a.M → a.M < a.O →
    a.N ∉ [a.Nd, a.C, a.M, a.O] → a.Gd ∉ [a.Nd, a.C, a.M, a.O] → a.G ∉ [a.Nd, a.C, a.M, a.O] → a.N ∉ [a.Nd, a.C] → a.Gd ∉ [a.Nd, a.C] → a.G ∉ [a.Nd, a.C] → a.M ∉ [a.Nd, a.C] → a.O ∉ [a.Nd, a.C] →
    a.Nd ∉ [a.M] → a.N ∉ [a.M] → a.C ∉ [a.M] → a.Gd ∉ [a.M] → a.G ∉ [a.M] → a.O ∉ [a.M] → a.Nd ∉ [a.O] → a.N ∉ [a.O] → a.C ∉ [a.O] → a.Gd ∉ [a.O] → a.G ∉ [a.O] → a.M ∉ [a.O] → 1 < a.M → 1 < a.O → P) : P := by
  obtain ⟨⟨o1, o2, o3, o4, o5, o6, o7, o8, o9⟩, ⟨w1, w2, w4, w5, w6, w7, w8⟩, hN, ⟨oD, hD, dD⟩, ⟨vs, nC, hC, cC⟩, hG, ⟨oG, hGd, dG⟩, ⟨oM, hM, dM⟩, ⟨oO, hO, dO⟩, c0, c1⟩ := Z
  obtain ⟨f1, f2, f3, _, f5, f6, f7, f8, f9⟩ := offs o1 o2 o3 o4 o5 o6 o7 o8 o9
  obtain ⟨⟨m1, m2, m3, m4, m5, m6⟩, m7, m8, m9, m10, m11, m12⟩ := offM o1 (Nat.lt_trans o2 (Nat.lt_trans o3 o4)) (Nat.lt_trans o5 o6) o7 o8 o9
  obtain ⟨h1, h2, h3, h4, h5, t1, t2, t3, t4, t5, x, tx, tc, rfl⟩ := dD
  obtain ⟨g1, g2, g3, u1, u2, u3, rfl⟩ := dG
  exact k vs nC oM oO h1 h2 h3 h4 h5 t1 t2 t3 t4 t5 x tx tc g1 g2 g3 u1 u2 u3 hN hD hC cC hG hGd hM dM hO dO c0 c1 w1 w2 w4 w5 w6 w7 w8 o1 (Nat.lt_trans o2 (Nat.lt_trans o3 o4)) (Nat.lt_trans o5 o6) o7 o8 o9 f1 f2 f3 f5 f6 f7 f8 f9 m1 m2 m3 m4 m5 m6 m7 m8 m9 m10 m11 m12 (by omega) (by omega)
/-- the gates' dict written out, the rest as it lies -/
theorem St.elimG (Z : St w H0 a h σ) (k : ∀ (vs : List Value) nC (oD oM oO : Obj) g1 g2 g3 u1 u2 u3, h.get? a.N = some (instObj 162 a.Nd) → h.get? a.Nd = some oD → oD.cls ≠ .type "tuple" →
    h.get? a.C = some (listOf vs.toArray nC) → h.get? a.G = some (instObj 239 a.Gd) → h.get? a.Gd = some (dictOf [⟨g1, .str (Str.ofString "netlist") u1, .ref a.N⟩, ⟨g2, .str (Str.ofString "made") u2, .ref a.M⟩, ⟨g3, .str (Str.ofString "opposite") u3, .ref a.O⟩] 3) →
    h.get? a.M = some oM → oM.cls ≠ .type "tuple" → h.get? a.O = some oO → OppObj PySem.Challenge.rw_on0108_01.row.prog w oO σ.opp (2 * σ.cells.length) → 2 ≤ σ.count → σ.count ≤ 10 + σ.cells.length →
    H0.get? a.Nd = none → H0.get? a.N = none → H0.get? a.C = none → H0.get? a.Gd = none → H0.get? a.G = none → H0.get? a.M = none → H0.get? a.O = none →
    a.Nd < a.N → a.N < a.C → a.C < a.Gd → a.Gd < a.G → a.G < a.M → a.M < a.O →
    a.N ∉ [a.Nd, a.C, a.M, a.O] → a.Gd ∉ [a.Nd, a.C, a.M, a.O] → a.G ∉ [a.Nd, a.C, a.M, a.O] → 1 < a.M → 1 < a.O → P) : P :=
  Z.elimD fun vs nC oM oO h1 h2 h3 h4 h5 t1 t2 t3 t4 t5 x tx tc g1 g2 g3 u1 u2 u3 hN hD hC cC hG hGd hM dM hO dO c0 c1 w1 w2 w4 w5 w6 w7 w8 o1 o2 o3 o4 o5 o6 f1 f2 f3 _ _ _ _ _ _ _ _ _ _ _ _ _ _ _ _ _ lm lo =>
    k vs nC _ oM oO g1 g2 g3 u1 u2 u3 hN hD (by simp) hC hG hGd hM (by rw [dM.cls]; simp) hO dO c0 c1 w1 w2 w4 w5 w6 w7 w8 o1 o2 o3 o4 o5 o6 f1 f2 f3 lm lo
/-- what lies at the places that a call changes -/
theorem St.elimB (Z : St w H0 a h σ) (k : ∀ oD (vs : List Value) nC oM oO, h.get? a.Nd = some oD → h.get? a.C = some (listOf vs.toArray nC) → h.get? a.M = some oM → h.get? a.O = some oO → P) : P := by
  obtain ⟨_, _, _, ⟨oD, hD, _⟩, ⟨vs, nC, hC, _⟩, _, _, ⟨oM, hM, _⟩, ⟨oO, hO, _⟩, _, _⟩ := Z
  exact k oD vs nC oM oO hD hC hM hO
/-- the same, the netlist's dict written out -/
theorem St.elimN (Z : St w H0 a h σ) (k : ∀ (vs : List Value) nC oM oO h1 h2 h3 h4 h5 t1 t2 t3 t4 t5 x tx tc, h.get? a.Nd = some (dictOf [⟨h1, .str (Str.ofString "name") t1, .str x tx⟩, ⟨h2, .str (Str.ofString "count") t2, .int σ.count tc⟩, ⟨h3, .str (Str.ofString "inputs") t3, .ref a.I⟩, ⟨h4, .str (Str.ofString "outputs") t4, .ref a.U⟩, ⟨h5, .str (Str.ofString "cells") t5, .ref a.C⟩] 5) → h.get? a.C = some (listOf vs.toArray nC) → h.get? a.M = some oM → h.get? a.O = some oO → P) : P :=
  Z.elimD fun vs nC oM oO h1 h2 h3 h4 h5 t1 t2 t3 t4 t5 x tx tc _ _ _ _ _ _ _ hD hC _ _ _ hM _ hO _ _ _ _ _ _ _ _ _ _ _ _ _ _ _ _ _ _ _ _ _ _ _ _ _ _ _ _ _ _ _ _ _ _ _ _ _ _ => k vs nC oM oO h1 h2 h3 h4 h5 t1 t2 t3 t4 t5 x tx tc hD hC hM hO
end
theorem St.ofAdd {w : World} {H0 h0 h : Heap} {a : GA} {σ σ' : NS} {h1 h2 h3 h4 h5 g1 g2 g3 : Int} {t1 t2 t3 t4 t5 tx tc tk tb u1 u2 u3 : Tok} {x kind : Str} {vs ws : List Value} {ins : List Int} {t T n m nC : Nat} {oM oO : Obj} (Z : St w H0 a h0 σ) (TI : TupIn h0 h) (cC : CellsAt h0 vs σ.cells)
    (hN : h.get? a.N = some (instObj 162 a.Nd)) (hD : h.get? a.Nd = some (dictOf [⟨h1, .str (Str.ofString "name") t1, .str x tx⟩, ⟨h2, .str (Str.ofString "count") t2, .int (σ.count + 1) tc⟩, ⟨h3, .str (Str.ofString "inputs") t3, .ref a.I⟩, ⟨h4, .str (Str.ofString "outputs") t4, .ref a.U⟩, ⟨h5, .str (Str.ofString "cells") t5, .ref a.C⟩] 5)) (hC : h.get? a.C = some (listOf (vs ++ [Value.ref t]).toArray nC))
    (ht : h.get? t = some (tupOf [.str kind tk, .int σ.count tb, .ref T, .none] n)) (hT : h.get? T = some (tupOf ws m)) (iw : Ints ws ins) (hG : h.get? a.G = some (instObj 239 a.Gd)) (hGd : h.get? a.Gd = some (dictOf [⟨g1, .str (Str.ofString "netlist") u1, .ref a.N⟩, ⟨g2, .str (Str.ofString "made") u2, .ref a.M⟩, ⟨g3, .str (Str.ofString "opposite") u3, .ref a.O⟩] 3))
    (hM : h.get? a.M = some oM) (dM : MadeObj PySem.Challenge.rw_on0108_01.row.prog w h oM σ'.made (σ.cells.length + 1)) (hO : h.get? a.O = some oO) (dO : OppObj PySem.Challenge.rw_on0108_01.row.prog w oO σ'.opp (2 * (σ.cells.length + 1)))
    (e1 : σ'.count = σ.count + 1) (e2 : σ'.cells = σ.cells ++ [⟨kind, σ.count, ins⟩]) : St w H0 a h σ' := by
  have z0 := Z.c0
  have z1 := Z.c1
  have el : σ'.cells.length = σ.cells.length + 1 := by rw [e2]; simp
  refine ⟨Z.chain, Z.own, hN, ⟨_, hD, ?_⟩, ⟨_, _, hC, ?_⟩, hG, ⟨_, hGd, _, _, _, _, _, _, rfl⟩, ⟨_, hM, ?_⟩, ⟨_, hO, ?_⟩, ?_, ?_⟩
  · rw [e1]; exact NetD.lit
  · rw [e2]; exact (cC.mono TI).snoc ⟨t, _, _, _, _, _, _, rfl, ht, hT, iw⟩
  · rw [el]; exact dM
  · rw [el]; exact dO
  · omega
  · omega
section
variable {D b c d e : Nat} {o o1 o2 o3 o4 : Obj} {l : List (Addr × Obj)}
theorem ltP (h : ∀ p ∈ l, p.1 < D) (m : (b, o) ∈ l) : @LT.lt Nat _ b D := h _ m
theorem ltNe (h : ∀ p ∈ l, p.1 < D) (m : (b, o) ∈ l) : @Ne Nat b D := Nat.ne_of_lt (h _ m)
theorem neAll (h : ∀ p ∈ l, @Ne Nat p.1 D) (m : (b, o) ∈ l) : @Ne Nat b D := h _ m
theorem ltNin2 (h : ∀ p ∈ l, p.1 < D) (m : (b, o) ∈ l) (m1 : (c, o1) ∈ l) : D ∉ [b, c] := ninQ2 (Ne.symm (ltNe h m)) (Ne.symm (ltNe h m1))
theorem ltNin4 (h : ∀ p ∈ l, p.1 < D) (m : (b, o) ∈ l) (m1 : (c, o1) ∈ l) (m2 : (d, o2) ∈ l) (m3 : (e, o3) ∈ l) : D ∉ [b, c, d, e] := ninQ4 (Ne.symm (ltNe h m)) (Ne.symm (ltNe h m1)) (Ne.symm (ltNe h m2)) (Ne.symm (ltNe h m3))
theorem neNin4 (h : ∀ p ∈ l, @Ne Nat p.1 D) (m : (b, o) ∈ l) (m1 : (c, o1) ∈ l) (m2 : (d, o2) ∈ l) (m3 : (e, o3) ∈ l) : D ∉ [b, c, d, e] := ninQ4 (Ne.symm (h _ m)) (Ne.symm (h _ m1)) (Ne.symm (h _ m2)) (Ne.symm (h _ m3))
theorem newsNe {g h : Heap} {L : Addr} (N : News g L h l) (hn : h.get? D = none) : ∀ p ∈ l, @Ne Nat p.1 D := fun p hp z => by
  have := (N p hp).1
  rw [z, hn] at this; cases this
end
inductive Sub : List (Addr × Obj) → List (Addr × Obj) → Prop where
  | nil {l : List (Addr × Obj)} : Sub [] l
  | same {l : List (Addr × Obj)} : Sub l l
  | keep {x : Addr × Obj} {r l : List (Addr × Obj)} (h : Sub r l) : Sub (x :: r) (x :: l)
  | drop {x : Addr × Obj} {r l : List (Addr × Obj)} (h : Sub r l) : Sub r (x :: l)
theorem Sub.mem {r l : List (Addr × Obj)} (x : Sub r l) : ∀ p ∈ r, p ∈ l := by
  induction x with
  | nil => intro p hp; cases hp
  | same => intro p hp; exact hp
  | keep _ ih => intro p hp; rcases List.mem_cons.mp hp with rfl | hp; exact .head _; exact .tail _ (ih p hp)
  | drop _ ih => intro p hp; exact .tail _ (ih p hp)
theorem AllIn.ofMem {l r : List (Addr × Obj)} (x : ∀ p ∈ r, p ∈ l) : AllIn l r := by
  induction r with
  | nil => exact .nil
  | cons q r ih => exact .cons (x _ (.head _)) (ih fun p hp => x p (.tail _ hp))
theorem Sub.allIn {r l : List (Addr × Obj)} (x : Sub r l) : AllIn l r := AllIn.ofMem x.mem
section
variable {env : Env} {g h' : Heap} {L I : Addr} {J : (Str → Option Value) → List (Addr × Obj) → Prop} {oI : Obj} {s₁ : Shared} {Q : Flow → Shared → Prop} {m' : Str → Option Value} {news' : List (Addr × Obj)} {tk : Nat}
theorem Post.next (F : Fr g L h' m') (N : News g L h' (news' ++ [(I, oI)])) (hn : AllNe I news') (j : J m' news') : Post g L J I oI s₁ Q .next { s₁ with heap := h', toks := tk } := ⟨_, _, _, _, rfl, F, N, hn, j⟩
end
theorem ite_off {y s : Str} {v r r0 : Option Value} (h : y ≠ s) (e : r = r0) : (if y = s then v else r) = r0 := (if_neg h).trans e
theorem offS {y s : Str} {l : List Str} (hy : l.contains y = false) (hm : s ∈ l) : y ≠ s := by
  rintro rfl
  rw [List.contains_iff_mem.mpr hm] at hy; cases hy
theorem offC {b : Bool} {v r : Option Value} (hy : b = false) : (if b = true then v else r) = r := if_neg (by rw [hy]; exact Bool.false_ne_true)
inductive DJ (w : World) (d : Nat) (tl : List (Addr × Obj)) (m : Int → Option Int) (n : Nat) : List (Addr × Obj) → Prop where
  | mk (o : Obj) (h : OppObj PySem.Challenge.rw_on0108_01.row.prog w o m n) : DJ w d tl m n ((d, o) :: tl)
theorem Ints.len {vs : List Value} {ls : List Int} (x : Ints vs ls) : vs.length = ls.length := by
  induction x with
  | nil => rfl
  | cons _ ih => simp [ih]
theorem Ints.atE {vs : List Value} {ks : List Int} {P : Value → Prop} (x : Ints vs ks) : ∀ {j : Nat}, (∀ k t, ks[j]? = some k → P (.int k t)) → ∀ v, vs.toArray[j]? = some v → P v := by
  induction x with
  | nil => intro j k v h; simp at h
  | cons _ ih =>
    intro j k v h
    cases j with
    | zero => simp at h; subst h; exact k _ _ rfl
    | succ j => exact ih (fun k' t e => k k' t (by simpa using e)) v (by simpa using h)
theorem CellsAt.getE {P : Value → Prop} {h : Heap} {vs : List Value} {cs : List Cell} {i : Nat} (x : CellsAt h vs cs)
    (k : ∀ (kd : Str) (out : Int) (ins : List Int) (ct cT : Nat) ctk ctb (cvs : List Value) cn cm, cs[i]? = some ⟨kd, out, ins⟩ → h.get? ct = some (tupOf [.str kd ctk, .int out ctb, .ref cT, .none] cn) → h.get? cT = some (tupOf cvs cm) → Ints cvs ins → P (.ref ct)) : ∀ v, vs[i]? = some v → P v := by
  intro v hv
  have key : ∃ r, cs[i]? = some r ∧ CellAt h v r := by
    clear k
    induction x generalizing i with
    | nil => simp at hv
    | cons y _ ih =>
      cases i with
      | zero => simp at hv; subst hv; exact ⟨_, rfl, y⟩
      | succ i => simp at hv; obtain ⟨r, e, z⟩ := ih hv; exact ⟨r, (by simpa using e), z⟩
  obtain ⟨⟨kd, out, ins⟩, hc, ct, cT, ctk, ctb, cvs, cn, cm, rfl, hct, hcT, cin⟩ := key
  exact k kd out ins ct cT ctk ctb cvs cn cm hc hct hcT cin
theorem oneCell {P : Prop} {cells hid : List (Addr × Obj)} {c : Addr} {d : Data} {g h' : Heap} {L : Addr} (h : ∃ o, cells = [(c, o)] ∧ o.data = d) (N : News g L h' (cells ++ hid)) (k : ∀ o, o.data = d → News g L h' ((c, o) :: hid) → P) : P := by
  obtain ⟨o, rfl, e⟩ := h
  exact k o e N
theorem Led.ltp {H0 h : Heap} {L : Nat} {l : List (Addr × Obj)} (x : Led H0 h l) (e : h.objs.size = L) : ∀ p ∈ l, p.1 < L + 1 := fun p hp => Nat.lt_succ_of_lt (e ▸ Heap.lt_size (x.all p hp).1)
theorem off3_mem {I C D : Addr} {l : List (Addr × Obj)} (x : LCg.Off3 I C D l) {p : Addr × Obj} (hp : p ∈ l) : @Ne Nat p.1 I ∧ @Ne Nat p.1 C ∧ @Ne Nat p.1 D := by
  induction l with
  | nil => cases hp
  | cons q r ih => rcases List.mem_cons.mp hp with rfl | hp; exact x.1; exact ih x.2 hp
theorem nin_of {x a : Nat} (h : @Ne Nat a x) : x ∉ [a] := fun e => h (List.mem_singleton.mp e).symm
theorem nin_of4 {x a b c d : Nat} (h1 : @Ne Nat a x) (h2 : @Ne Nat b x) (h3 : @Ne Nat c x) (h4 : @Ne Nat d x) : x ∉ [a, b, c, d] := by
  intro e
  simp only [List.mem_cons, List.not_mem_nil, or_false] at e
  rcases e with e | e | e | e
  · exact h1 e.symm
  · exact h2 e.symm
  · exact h3 e.symm
  · exact h4 e.symm
theorem ne1 {a d : Nat} (h : a ∉ [d]) : a ≠ d := fun e => h (List.mem_singleton.mpr e)
theorem nin1 {a b : Nat} (h : b < a ∨ a < b) : a ∉ [b] := fun e => by
  have := List.mem_singleton.mp e
  omega
theorem off1_mem {D : Addr} {l : List (Addr × Obj)} (x : LCg.Off1 D l) {p : Addr × Obj} (hp : p ∈ l) : @Ne Nat p.1 D := by
  induction l with
  | nil => cases hp
  | cons q r ih => rcases List.mem_cons.mp hp with rfl | hp; exact x.1; exact ih x.2 hp
theorem JH {α β γ : Type} {J J0 : α → β → γ → Prop} (e : J = J0) {i : α} {m : β} {nx : γ} (h : J0 i m nx) : J i m nx := e ▸ h
theorem JE {α β γ : Type} {J J0 : α → β → γ → Prop} (e : J = J0) {i : α} {m : β} {nx : γ} (h : J i m nx) : J0 i m nx := e ▸ h
inductive FixJ (l : List (Addr × Obj)) (p : Prop) : List (Addr × Obj) → Prop where
  | mk (h : p) : FixJ l p l
theorem step0 {g h h' : Heap} {L : Addr} {m : Str → Option Value} {l : List (Addr × Obj)} {P : Prop} (G : Grow [] h h') (F : Fr g L h m) (N : News g L h l) (k : Fr g L h' m → News g L h' l → P) : P :=
  k (frGrow F N G (fun b hb => by cases hb)) (fun p hp => ⟨G.keep _ _ List.not_mem_nil (N p hp).1, (N p hp).2⟩)

section
local macro_rules | `(tactic| walk_at "mine memr") => `(tactic| with_reducible first | exact List.mem_cons_self | exact mem1 | exact mem2 | exact mem3 | exact mem4 | exact mem5 | exact mem6 | exact mem7 | exact mem8 | exact mem9 | exact mem10 | exact mem11 | exact mem12 | exact mem13 | exact mem14 | (focus ((repeat (first | exact List.mem_cons_self | refine List.mem_cons_of_mem _ ?_)); done)))
local macro_rules | `(tactic| walk_at "mine mem") => `(tactic| first | walk_at "mine memr" | (focus ((repeat (first | exact List.Mem.head _ | refine List.Mem.tail _ ?_)); done)))
local macro_rules | `(tactic| k_mem) => `(tactic| walk_at "mine memr")
local macro_rules | `(tactic| k_ne) => `(tactic| ((try dsimp only); first | exact neOf (by with_reducible assumption) | exact Ne.symm (neOf (by with_reducible assumption)) | exact Nat.ne_of_lt (by with_reducible assumption) | exact Nat.ne_of_gt (by with_reducible assumption) | exact ltNe (by with_reducible assumption) (by k_mem) | exact Ne.symm (ltNe (by with_reducible assumption) (by k_mem)) | exact neAll (by with_reducible assumption) (by k_mem) | exact Ne.symm (neAll (by with_reducible assumption) (by k_mem)) | (refine neN ?_; omega)))
local macro_rules | `(tactic| walk_at "mine is") => `(tactic| (
  (case k6 => k_is); (case k7 => k_is); (case k9 => first | exact BindsTo.of_eq rfl | exact binds_K (Frag.In.keeps (by assumption) (by assumption)) rfl (by k_is) rfl rfl rfl); (case kB => exact locs rfl); (case c2 => exact rfl); (case c3 => exact rfl); (case c4 => exact rfl); (case c5 => decide)))
local macro_rules | `(tactic| walk_at "compareOp NotIn int ref") => `(tactic| (k_dflt (first
  | (refine' opp_notin0 ?N ?p ?d ?l ?k ?_; (case N => k_asm); (case p => k_mem); (case d => k_asm); (case l => first | with_reducible assumption | omega); (case k => assumption))
  | (refine' opp_notin1 ?N ?p ?d ?l ?k ?_; (case N => k_asm); (case p => k_mem); (case d => k_asm); (case l => first | with_reducible assumption | omega); (case k => assumption)))))
local macro_rules | `(tactic| walk_at "subscriptTail") => `(tactic| (k_dflt (((with_reducible show wpAny _ _ (subscriptTail _ _ (Value.ref _) (Value.int _ _)) _ _ _); (with_unfolding_all refine' opp_item ?N ?p ?d ?k ?_); (case N => k_asm); (case p => k_mem); (case d => k_asm); (case k => assumption); intro t'))))
local macro_rules | `(tactic| walk_at "setItem ref int") => `(tactic| (k_dflt (refine' opp_set ?F ?N ?U ?d ?z ?_; (case F => k_asm); (case N => k_asm); (case U => k_updF); (case d => k_asm); (case z => omega)); intro h' o' F' N' hd'; (try dsimp only at N'); (try k_sweep)))
local macro_rules | `(tactic| walk_at "getMethod ref") => `(tactic| (k_dflt (((with_reducible show wpAny _ _ (getMethod (Value.ref _) (Str.ofString "get") _) _ _ _); (refine' opp_method ?N ?p ?d ?_; (case N => k_asm); (case p => k_mem); (case d => k_asm))))))
local macro_rules | `(tactic| walk_at "call builtin:dict.get") => `(tactic| (k_dflt (((refine' opp_get ?N ?p ?d ?l ?_; (case N => k_asm); (case p => k_mem); (case d => k_asm); (case l => first | with_reducible assumption | omega)); intro t'))))
local macro_rules | `(tactic| walk_at "mine at") => `(tactic| first | exact newsAt (by assumption) (by k_mem) | exact newsOwn (by assumption) (by k_mem) | exact Fr.keep (by assumption) | assumption | (exact (by assumption : _ = _)) | (show _ + 3 + _ < _; omega) | (show _ + 1 + _ < _; omega) | omega)
local macro_rules | `(tactic| walk_at "mine upds") => `(tactic| first
  | exact Upds.nil
  | exact Has.nil
  | (refine' Upds.chg ?n ?x; (case n => assumption); (case x => walk_at "mine upds"))
  | (refine' Upds.keep ?n ?x; (case n => first | with_reducible assumption | exact ltNin2 (by with_reducible assumption) (by k_mem) (by k_mem) | exact ltNin4 (by with_reducible assumption) (by k_mem) (by k_mem) (by k_mem) (by k_mem) | (refine nin1' ?_; k_ne) | (refine ninQ2 ?_ ?_ <;> k_ne) | (refine ninQ4 ?_ ?_ ?_ ?_ <;> k_ne) | (simp <;> omega)); (case x => walk_at "mine upds"))
  | (refine' Has.cons ?n ?x; (case n => walk_at "mine mem"); (case x => walk_at "mine upds")))
local macro_rules | `(tactic| walk_at "mine kept") => `(tactic| first
  | exact Kept.nil
  | (refine' Kept.still ?n ?x; (case n => walk_at "mine memr"); (case x => walk_at "mine kept"))
  | (refine' Kept.out ?n ?m ?x; (case n => simp); (case m => walk_at "mine mem"); (case x => walk_at "mine kept"))
  | (refine' Kept.still ?n ?x; (case n => walk_at "mine mem"); (case x => walk_at "mine kept")))
local macro_rules | `(tactic| walk_at "mine notup") => `(tactic| first
  | exact NoTup.nil
  | (refine' NoTup.cons ?n ?x; (case n => first | (simp; done) | (rw [MadeObj.cls (by assumption)]; simp; done) | (rw [OppObj.cls (by assumption)]; simp; done)); (case x => walk_at "mine notup")))
local macro_rules | `(tactic| walk_at "mine key") => `(tactic| first | exact tupKey3 (by k_asm) (by k_mem) | exact tupKey4 (by k_asm) (by k_mem))
local macro_rules | `(tactic| walk_at "mine madeobj") => `(tactic| first | assumption | exact MadeObj.mono (tupFr (by k_asm)) (by assumption))
local macro_rules | `(tactic| walk_at "compareOp NotIn ref ref") => `(tactic| (k_dflt (((first
  | (refine' made_notin0 ?u ?N ?p ?d ?y ?l ?k ?_; (case u => (show _ + 3 + 1 < _; omega)); (case N => k_asm); (case p => k_mem); (case d => walk_at "mine madeobj"); (case y => walk_at "mine key"); (case l => first | with_reducible assumption | omega); (case k => assumption))
  | (refine' made_notin1 ?u ?N ?p ?d ?y ?l ?k ?_; (case u => (show _ + 3 + 1 < _; omega)); (case N => k_asm); (case p => k_mem); (case d => walk_at "mine madeobj"); (case y => walk_at "mine key"); (case l => first | with_reducible assumption | omega); (case k => assumption))); intro tk'))))
local macro_rules | `(tactic| walk_at "subscriptTail") => `(tactic| (k_dflt (((with_reducible show wpAny _ _ (subscriptTail _ _ (Value.ref _) (Value.ref _)) _ _ _); (with_unfolding_all refine' made_item ?u ?N ?p ?d ?y ?k ?_); (case u => (show _ + 3 + 1 < _; omega)); (case N => k_asm); (case p => k_mem); (case d => walk_at "mine madeobj"); (case y => walk_at "mine key"); (case k => assumption); intro t' tk'))))
local macro_rules | `(tactic| walk_at "setItem ref ref") => `(tactic| (k_dflt (refine' made_set ?u ?F ?N ?U ?d ?y ?k ?z ?_; (case u => (show _ + 3 + 1 < _; omega)); (case F => k_asm); (case N => k_asm); (case U => k_updF); (case d => walk_at "mine madeobj"); (case y => walk_at "mine key"); (case k => assumption); (case z => omega)); intro h' o' tk' F' N' hd' hs'; (try dsimp only at N'); (try k_sweep)))
local macro_rules | `(tactic| walk_at "call builtin:min") => `(tactic| (k_dflt (((refine' min_N ?h ?F ?N ?_; (case h => assumption); (case F => k_asm); (case N => k_asm)); intro h' tk' t' F' N'; (try k_sweep)))))
local macro_rules | `(tactic| walk_at "call builtin:max") => `(tactic| (k_dflt (((refine' max_N ?h ?F ?N ?_; (case h => assumption); (case F => k_asm); (case N => k_asm)); intro h' tk' t' F' N'; (try k_sweep)))))
local macro_rules | `(tactic| walk_at "mine tup") => `(tactic| first | exact newsAt (by k_asm) (by k_mem) | exact Fr.keep (by k_asm) _ _ (by assumption))
local macro_rules | `(tactic| walk_at "call builtin:len") => `(tactic| (k_dflt (((with_reducible show wpAny _ _ (call (Value.builtin _) [Value.ref _]) _ _ _); first
  | (refine' tup_len ?t ?f ?_; (case t => walk_at "mine tup"); (case f => omega); intro t' tk')
  | (refine' list_len ?N ?p ?f ?_; (case N => k_asm); (case p => k_mem); (case f => omega); intro t' tk')))))
local macro_rules | `(tactic| walk_at "subscriptTail") => `(tactic| (k_dflt (((with_reducible show wpAny _ _ (subscriptTail _ _ (Value.ref _) (Value.int (Nat.cast _) _)) _ _ _); first
  | ((with_unfolding_all refine' tup_item ?t ?x ?i ?_); (case t => walk_at "mine tup"); (case x => assumption); (case i => omega))
  | ((with_unfolding_all refine' list_item ?N ?p ?x ?i ?_); (case N => k_asm); (case p => k_mem); (case x => assumption); (case i => omega))))))
local macro_rules | `(tactic| walk_at "mine sub") => `(tactic| first
  | ((with_reducible show wpAny _ _ (subscriptTail _ _ (Value.ref _) (Value.int (Nat.cast _) _)) _ _ _); first
    | ((with_unfolding_all refine' tup_item ?t ?x ?i ?_); (case t => walk_at "mine tup"); (case x => assumption); (case i => omega))
    | ((with_unfolding_all refine' list_item ?N ?p ?x ?i ?_); (case N => k_asm); (case p => k_mem); (case x => assumption); (case i => omega)))
  | ((with_reducible show wpAny _ _ (subscriptTail _ _ (Value.ref _) (Value.int _ _)) _ _ _); (with_unfolding_all refine' opp_item ?N ?p ?d ?k ?_); (case N => k_asm); (case p => k_mem); (case d => k_asm); (case k => assumption); intro t')
  | ((with_reducible show wpAny _ _ (subscriptTail _ _ (Value.ref _) (Value.ref _)) _ _ _); (with_unfolding_all refine' made_item ?u ?N ?p ?d ?y ?k ?_); (case u => (show _ + 3 + 1 < _; omega)); (case N => k_asm); (case p => k_mem); (case d => walk_at "mine madeobj"); (case y => walk_at "mine key"); (case k => assumption); intro t' tk'))
local macro_rules | `(tactic| walk_at "subscriptTail Attribute") => `(tactic| (k_here; k_dflt (refine PySem.W.kba_turn (value' := PySem.Expr.Name (PySem.Str.ofString "_") ⟨0, 0, 0, 0⟩) (fun _ => rfl) ?_); (try k_dflt (walk_at "mine sub"))))
local macro_rules | `(tactic| walk_at "subscriptTail Name Name ref int") => `(tactic| k_dflt (walk_at "mine sub"))
local macro_rules | `(tactic| walk_at "call ref") => `(tactic| refine Hold.out ?_)
local macro_rules | `(tactic| walk_at "pyIter ref") => `(tactic| refine Hold.out ?_)
local macro_rules | `(tactic| walk_at "compareOp NotIn int ref") => `(tactic| (k_dflt ((refine' tup_notin ?t ?d ?_; (case t => walk_at "mine tup"); (case d => assumption)))))
local macro_rules | `(tactic| walk_at "mine subl") => `(tactic| first
  | exact Sub.nil
  | with_reducible exact Sub.same
  | ((with_reducible refine' Sub.keep ?x); (case x => walk_at "mine subl"))
  | ((with_reducible refine' Sub.drop ?x); (case x => walk_at "mine subl")))
local macro_rules | `(tactic| walk_at "mine allin") => `(tactic| first
  | exact AllIn.nil
  | (refine' Sub.allIn ?x; (case x => walk_at "mine subl"))
  | (refine' AllIn.cons ?m ?x; (case m => walk_at "mine mem"); (case x => walk_at "mine allin")))
local macro_rules | `(tactic| walk_at "mine allne") => `(tactic| (refine allNe_of_mem ?_; intro p hp; simp only [List.mem_cons, List.not_mem_nil, or_false] at hp; rcases hp with rfl | hp <;> first | (dsimp only; omega) | (rcases hp with rfl | rfl <;> (dsimp only; omega)) | (rcases hp with rfl <;> (dsimp only; omega)) | (rcases hp with rfl | rfl | rfl <;> (dsimp only; omega))))
local macro_rules | `(tactic| walk_at "CompSrc") => `(tactic| refine Hold.out ?_)
local macro_rules | `(tactic| walk_at "exec For Tuple Attribute cons nil") => `(tactic| refine Hold.out ?_)
local macro_rules | `(tactic| walk_at "exec For Tuple Name cons nil") => `(tactic| refine Hold.out ?_)
local macro_rules | `(tactic| walk_at "mine offs") => `(tactic| (intro y hy; (repeat (first | exact rfl | exact offC hy | refine ite_off (offS hy (by k_mem)) ?_))))
local macro_rules | `(tactic| walk_at "mine offr") => `(tactic| (intro y h1 hy; (repeat (first | exact rfl | exact offC hy | refine ite_off h1 ?_ | refine ite_off (offS hy (by k_mem)) ?_))))
-- E1
section
variable {w : World} {A : Around} {s : Shared} {Q : Result → Shared → Prop} {H0 : Heap}
    {loose : List Str} {mean : ExcName → Option Value} {mg mb : Str → Option Value}
set_option maxHeartbeats 8000000 in
theorem new_net_ (X : (pre.heap_1_1 w.params).In H0) (T : Top pre.view_1_2 loose mean mg mb H0) (S : H0.StaysIn s.heap) (hroom : A.depth < recursionLimit)
   {N Nd I U C : Nat} {c : Int} {p1 p2 p3 p4 p5 : Int} {q1 q2 q3 q4 q5 tx tc : Tok} {x : Str} (hN : s.heap.get? N = some (instObj 162 Nd)) (hD : s.heap.get? Nd = some (dictOf [⟨p1, .str (Str.ofString "name") q1, .str x tx⟩, ⟨p2, .str (Str.ofString "count") q2, .int (c) tc⟩, ⟨p3, .str (Str.ofString "inputs") q3, .ref I⟩, ⟨p4, .str (Str.ofString "outputs") q4, .ref U⟩, ⟨p5, .str (Str.ofString "cells") q5, .ref C⟩] 5))
   (n1 : H0.get? N = none) (n2 : H0.get? Nd = none) (ne : Nd < N) (c0 : 0 ≤ c) (c1 : c < 2 ^ 30)
   (ret : ∀ h' tk' t p1' p2' p3' p4' p5' q1' q2' q3' q4' q5' x' tx' tc', Grow [Nd] s.heap h' → h'.get? Nd = some (dictOf [⟨p1', .str (Str.ofString "name") q1', .str x' tx'⟩, ⟨p2', .str (Str.ofString "count") q2', .int (c + 1) tc'⟩, ⟨p3', .str (Str.ofString "inputs") q3', .ref I⟩, ⟨p4', .str (Str.ofString "outputs") q4', .ref U⟩, ⟨p5', .str (Str.ofString "cells") q5', .ref C⟩] 5) → Q (.ok (.ret (.int c t))) {s with heap := h', toks := tk'}) :
   codeAny (model PySem.Challenge.rw_on0108_01.row.prog w) A (.call (.ref 110) ⟨[.ref N], []⟩) Q s := Wr.out (by exact Wr.of _ : Wr (by
  revert X
  k_fill
  intro X
  have led : Led H0 s.heap _ := .cons hN n1 (.cons hD n2 .nil)
  refine' enter X T S led ?k6 ?k7 hroom ?k9 ?kB ?_ ?c2 ?c3 ?c4 ?c5
  walk_at "mine is"
  intro g L h1 Xg Tg Sg hg1 hg2 hg3 hL F N
  try dsimp only
  try k_fold
  k_steps
  rename Fr _ _ _ _ => F'
  rename News _ _ _ _ => N'
  exact ret _ _ _ _ _ _ _ _ _ _ _ _ _ _ _ _ (grow_of led hg1 hL F' N' (.still (.head _) (.out (.head _) (.tail _ (.head _)) .nil))) (N' _ (.tail _ (.head _))).1))

set_option maxHeartbeats 8000000 in
theorem drive_ (X : (pre.heap_1_1 w.params).In H0) (T : Top pre.view_1_2 loose mean mg mb H0) (S : H0.StaysIn s.heap) (hh : A.handled = none) (hroom : A.depth < recursionLimit)
   {N Nd I U C Tu : Nat} {c out : Int} {p1 p2 p3 p4 p5 : Int} {q1 q2 q3 q4 q5 tx tc : Tok} {x : Str} {kind : Str} {tk tt : Tok} {vs ts : List Value} {n nt : Nat} (hN : s.heap.get? N = some (instObj 162 Nd)) (hD : s.heap.get? Nd = some (dictOf [⟨p1, .str (Str.ofString "name") q1, .str x tx⟩, ⟨p2, .str (Str.ofString "count") q2, .int (c) tc⟩, ⟨p3, .str (Str.ofString "inputs") q3, .ref I⟩, ⟨p4, .str (Str.ofString "outputs") q4, .ref U⟩, ⟨p5, .str (Str.ofString "cells") q5, .ref C⟩] 5))
   (hC : s.heap.get? C = some (listOf vs.toArray n)) (hT : s.heap.get? Tu = some (tupOf ts nt))
   (n1 : H0.get? N = none) (n2 : H0.get? Nd = none) (n3 : H0.get? C = none) (n4 : H0.get? Tu = none) (ne : Nd < N) (ne2 : N < C) (ne3 : Tu ≠ C) (ne4 : Tu ≠ N) (ne5 : Tu ≠ Nd) (hlen : vs.length < 100000)
   (ret : ∀ h' tk' t n' n'', Grow [C] s.heap h' → h'.get? C = some (listOf (vs ++ [Value.ref t]).toArray n') → h'.get? t = some (tupOf [.str kind tk, .int out tt, .ref Tu, .none] n'') → s.heap.get? t = none → Q (.ok (.ret .none)) {s with heap := h', toks := tk'}) :
   codeAny (model PySem.Challenge.rw_on0108_01.row.prog w) A (.call (.ref 145) ⟨[.ref N, .int out tt, .str kind tk, .ref Tu, .none], []⟩) Q s := Wr.out (by exact Wr.of _ : Wr (by
  revert X
  k_fill
  intro X
  have led : Led H0 s.heap _ := .cons hN n1 (.cons hD n2 (.cons hC n3 (.cons hT n4 .nil)))
  refine' enter X T S led ?k6 ?k7 hroom ?k9 ?kB ?_ ?c2 ?c3 ?c4 ?c5
  walk_at "mine is"
  intro g L h1 Xg Tg Sg hg1 hg2 hg3 hL F N
  try dsimp only
  try k_fold
  k_steps
  rename Fr _ _ _ _ => F'
  rename News _ _ _ _ => N'
  have hc := (N' _ (.tail _ (.tail _ (.tail _ (.head _))))).1
  simp only [List.push_toArray] at hc
  exact ret _ _ _ _ _ (grow_of led hg1 hL F' N' (.still (by k_mem) (.still (by k_mem) (.out (.head _) (by k_mem) (.still (by k_mem) .nil))))) hc (N' _ (.head _)).1 (fresh_of hg1 N' (.head _) (by simp; omega))))
end
-- E2
section
variable {w : World} {A : Around} {s : Shared} {Q : Result → Shared → Prop} {H0 : Heap}
    {loose : List Str} {mean : ExcName → Option Value} {mg mb : Str → Option Value}
set_option maxHeartbeats 8000000 in
theorem add_cell_ (X : (pre.heap_1_1 w.params).In H0) (T : Top pre.view_1_2 loose mean mg mb H0) (S : H0.StaysIn s.heap) (hh : A.handled = none) (hroom : A.depth + 1 < recursionLimit)
   {N Nd I U C Tu : Nat} {c : Int} {p1 p2 p3 p4 p5 : Int} {q1 q2 q3 q4 q5 tx tc : Tok} {x : Str} {kind : Str} {tk : Tok} {vs ts : List Value} {n nt : Nat} (hN : s.heap.get? N = some (instObj 162 Nd)) (hD : s.heap.get? Nd = some (dictOf [⟨p1, .str (Str.ofString "name") q1, .str x tx⟩, ⟨p2, .str (Str.ofString "count") q2, .int (c) tc⟩, ⟨p3, .str (Str.ofString "inputs") q3, .ref I⟩, ⟨p4, .str (Str.ofString "outputs") q4, .ref U⟩, ⟨p5, .str (Str.ofString "cells") q5, .ref C⟩] 5))
   (hC : s.heap.get? C = some (listOf vs.toArray n)) (hT : s.heap.get? Tu = some (tupOf ts nt))
   (n1 : H0.get? N = none) (n2 : H0.get? Nd = none) (n3 : H0.get? C = none) (n4 : H0.get? Tu = none) (ne : Nd < N) (ne2 : N < C) (ne3 : Tu ≠ C) (ne4 : Tu ≠ N) (ne5 : Tu ≠ Nd) (hlen : vs.length < 100000) (c0 : 0 ≤ c) (c1 : c < 2 ^ 30)
   (ret : ∀ h' tk' t tb td n' n'' p1' p2' p3' p4' p5' q1' q2' q3' q4' q5' x' tx' tc', Grow [Nd, C] s.heap h' → h'.get? Nd = some (dictOf [⟨p1', .str (Str.ofString "name") q1', .str x' tx'⟩, ⟨p2', .str (Str.ofString "count") q2', .int (c + 1) tc'⟩, ⟨p3', .str (Str.ofString "inputs") q3', .ref I⟩, ⟨p4', .str (Str.ofString "outputs") q4', .ref U⟩, ⟨p5', .str (Str.ofString "cells") q5', .ref C⟩] 5) → h'.get? C = some (listOf (vs ++ [Value.ref t]).toArray n') → h'.get? t = some (tupOf [.str kind tk, .int c tb, .ref Tu, .none] n'') → s.heap.get? t = none → Q (.ok (.ret (.int c td))) {s with heap := h', toks := tk'}) :
   codeAny (model PySem.Challenge.rw_on0108_01.row.prog w) A (.call (.ref 137) ⟨[.ref N, .str kind tk, .ref Tu], []⟩) Q s := Wr.out (by exact Wr.of _ : Wr (by
  revert X
  k_fill
  intro X
  have led : Led H0 s.heap _ := .cons hN n1 (.cons hD n2 (.cons hC n3 (.cons hT n4 .nil)))
  refine' enter X T S led ?k6 ?k7 (by omega) ?k9 ?kB ?_ ?c2 ?c3 ?c4 ?c5
  walk_at "mine is"
  intro g L h1 Xg Tg Sg hg1 hg2 hg3 hL F' N'
  try dsimp only
  try k_fold
  k_steps
  rename Fr _ _ _ _ => F'
  rename News _ _ _ _ => N'
  try dsimp only
  (first | refine callH ?_ | refine callR ?_)
  refine new_net_ (s := ⟨_, _, _, _, _⟩) Xg Tg F'.keep (by show A.depth + 1 < _; omega) (N' _ (.head _)).1 (N' _ (.tail _ (.head _))).1 (N' _ (.head _)).2.2 (N' _ (.tail _ (.head _))).2.2 ne c0 c1 ?_
  intro h2 tk2 tc2 p1' p2' p3' p4' p5' q1' q2' q3' q4' q5' x' tx' tc' G2 e2
  have F2 := frGrow F' N' G2 (by intro b hb; rcases List.mem_singleton.mp hb with rfl; exact ⟨_, .tail _ (.head _)⟩)
  have N2 := (Upds.keep (mods := [Nd]) (h' := h2) (by simp; omega) (.chg e2 (.keep (by simp; omega) (.keep (by simp; omega) .nil)))).news G2 N'
  clear F' N'
  (first | refine RetTo.mk ?_ | refine ⟨_, rfl, ?_⟩)
  k_steps
  rename Fr _ _ _ _ => F'
  rename News _ _ _ _ => N'
  try dsimp only
  (first | refine callH ?_ | refine callR ?_)
  refine drive_ (s := ⟨_, _, _, _, _⟩) Xg Tg F'.keep (by exact hh) (by show A.depth + 1 < _; omega) (N' _ (.head _)).1 (N' _ (.tail _ (.head _))).1 (N' _ (.tail _ (.tail _ (.head _)))).1 (N' _ (.tail _ (.tail _ (.tail _ (.head _))))).1 (N' _ (.head _)).2.2 (N' _ (.tail _ (.head _))).2.2 (N' _ (.tail _ (.tail _ (.head _)))).2.2 (N' _ (.tail _ (.tail _ (.tail _ (.head _))))).2.2 ne ne2 ne3 ne4 ne5 hlen ?_
  intro h3 tk3 ta n3 n4 G3 e3 e4 e5
  have fr := (grow_of (mods := [Nd]) led hg1 hL F' N' (.still (by k_mem) (.out (.head _) (by k_mem) (.still (by k_mem) (.still (by k_mem) .nil))))).dom _ e5
  have F3 := frGrow F' N' G3 (by intro b hb; rcases List.mem_singleton.mp hb with rfl; exact ⟨_, .tail _ (.tail _ (.head _))⟩)
  have N3 := (Upds.keep (mods := [C]) (h' := h3) (by simp; omega) (.keep (by simp; omega) (.chg e3 (.keep (by simp; omega) .nil)))).news G3 N'
  clear F' N'
  (first | refine RetTo.mk ?_ | refine ⟨_, rfl, ?_⟩)
  k_steps
  rename Fr _ _ _ _ => F'
  rename News _ _ _ _ => N'

  exact ret _ _ _ _ _ _ _ _ _ _ _ _ _ _ _ _ _ _ _ _ (grow_of led hg1 hL F' N' (.still (by k_mem) (.out (.head _) (by k_mem) (.out (.tail _ (.head _)) (by k_mem) (.still (by k_mem) .nil))))) (N' _ (.tail _ (.head _))).1 (N' _ (.tail _ (.tail _ (.head _)))).1 e4 fr))
end
-- E3
section
variable {w : World} {A : Around} {s : Shared} {Q : Result → Shared → Prop} {H0 : Heap}
    {loose : List Str} {mean : ExcName → Option Value} {mg mb : Str → Option Value}
local macro_rules | `(tactic| k_lt $x:ident) => `(tactic| skip)
local macro_rules | `(tactic| walk_at "mine 01") => `(tactic| first | exact .inl rfl | exact .inr rfl | exact .inl (by assumption) | exact .inr (by assumption) | omega)
set_option maxHeartbeats 8000000 in
theorem invC (X : (pre.heap_1_1 w.params).In H0) (T : Top pre.view_1_2 loose mean mg mb H0) (S : H0.StaysIn s.heap) (hh : A.handled = none) (hroom : A.depth + 2 < recursionLimit)
   {a : GA} {σ : NS} {n : Int} {tn : Tok} (Z : St w H0 a s.heap σ) (n0 : 0 ≤ n) (n1 : n < σ.count) (hlen : σ.cells.length < 10000)
   (ret : ∀ h' tk' t σ' r, σ.inv n = (σ', r) → Grow [a.Nd, a.C, a.M, a.O] s.heap h' → St w H0 a h' σ' → Q (.ok (.ret (.int r t))) {s with heap := h', toks := tk'}) :
   codeAny (model PySem.Challenge.rw_on0108_01.row.prog w) A (.call (.ref 201) ⟨[.ref a.G, .int n tn], []⟩) Q s := Wr.out (by exact Wr.of _ : Wr (by
  refine Z.elimD ?_
  intro vs nC oM oO p1 p2 p3 p4 p5 q1 q2 q3 q4 q5 x tx tc g1 g2 g3 u1 u2 u3 hN hD hC cC hG hGd hM dM hO dO c0 c1 w1 w2 w4 w5 w6 w7 w8 o1 o2 o3 o4 o5 o6 f1 f2 f3 f5 f6 f7 f8 f9 m1 m2 m3 m4 m5 m6 m7 m8 m9 m10 m11 m12 lm lo
  revert X
  k_fill
  intro X
  have led : Led H0 s.heap _ := .cons hG w6 (.cons hGd w5 (.cons hN w2 (.cons hD w1 (.cons hC w4 (.cons hM w7 (.cons hO w8 .nil))))))
  refine' enter X T S led ?k6 ?k7 (by omega) ?k9 ?kB ?_ ?c2 ?c3 ?c4 ?c5
  walk_at "mine is"
  intro g L h1 Xg Tg Sg hg1 hg2 hg3 hL F' N'
  try dsimp only
  try k_fold
  rcases hq : σ.opp n with _ | r
  · have hfin : upd (upd σ.opp n σ.count) σ.count n n = some σ.count := by
      unfold upd; rw [if_neg (by omega), if_pos rfl]
    k_steps
    · rename Fr _ _ _ _ => F'
      rename News _ _ _ _ => N'
      have G := grow_of (mods := []) led hg1 hL F' N' (by walk_at "mine kept")
      exact ret _ _ _ _ _ (NS.inv_01 (by walk_at "mine 01")) G.any (Z.same G)
    · rename Fr _ _ _ _ => F'
      rename News _ _ _ _ => N'
      have G := grow_of (mods := []) led hg1 hL F' N' (by walk_at "mine kept")
      exact ret _ _ _ _ _ (NS.inv_01 (by walk_at "mine 01")) G.any (Z.same G)
    · rename Fr _ _ _ _ => F'
      rename News _ _ _ _ => N'
      refine callH ?_
      refine add_cell_ (s := ⟨_, _, _, _, _⟩) Xg Tg F'.keep (by exact hh) (by show A.depth + 1 + 1 < _; omega) (newsAt N' (by k_mem)) (newsAt N' (by k_mem)) (newsAt N' (by k_mem)) (newsAt N' (by k_mem))
        (newsOwn N' (by k_mem)) (newsOwn N' (by k_mem)) (newsOwn N' (by k_mem)) (newsOwn N' (by k_mem)) o1 o2 (by k_ne) (by k_ne) (by k_ne) (by rw [cC.length]; omega) (by omega) (by omega) ?_
      intro h2 tk2 ta tb tc2 n2 n3 p1' p2' p3' p4' p5' q1' q2' q3' q4' q5' x' tx' tc' G2 e2 e3 e4 e5
      refine' stepN ?u ?hm G2 F' N' ?_
      case u => walk_at "mine upds"
      case hm => walk_at "mine upds"
      intro F2 N2
      have nl := newsNe N' e5
      replace N2 := newsAdd F' N2 e4 e5
      refine RetTo.mk ?_

      k_steps
      rename Fr _ _ _ _ => F''
      rename News _ _ _ _ => N''
      rename OppObj _ _ _ _ _ => hO2
      have G := grow_of (mods := [a.Nd, a.C, a.M, a.O]) led hg1 hL F'' N'' (by walk_at "mine kept")
      have TI := Z.tup G
      exact ret _ _ _ _ _ (NS.inv_new (by assumption) (by assumption) hq) G (Z.ofAdd TI cC (newsAt N'' (by k_mem)) (newsAt N'' (by k_mem)) (newsAt N'' (by k_mem)) (newsAt N'' (.head _)) (newsAt N'' (.tail _ (.head _))) (.cons .nil) (newsAt N'' (by k_mem)) (newsAt N'' (by k_mem)) (newsAt N'' (by k_mem)) ((dM.mono TI).le (Nat.le_succ _)) (newsAt N'' (by k_mem)) hO2 rfl rfl)
  · k_steps
    all_goals (
      rename Fr _ _ _ _ => F'
      rename News _ _ _ _ => N'
      have G := grow_of (mods := []) led hg1 hL F' N' (by walk_at "mine kept"))
    · exact ret _ _ _ _ _ (NS.inv_01 (by walk_at "mine 01")) G.any (Z.same G)
    · exact ret _ _ _ _ _ (NS.inv_01 (by walk_at "mine 01")) G.any (Z.same G)
    · exact ret _ _ _ _ _ (NS.inv_some (by assumption) (by assumption) hq) G.any (Z.same G)))
end
-- E4
section
variable {w : World} {A : Around} {s : Shared} {Q : Result → Shared → Prop} {H0 : Heap}
    {loose : List Str} {mean : ExcName → Option Value} {mg mb : Str → Option Value}
local macro_rules | `(tactic| k_lt $x:ident) => `(tactic| skip)
set_option maxHeartbeats 8000000 in
theorem pairC (X : (pre.heap_1_1 w.params).In H0) (T : Top pre.view_1_2 loose mean mg mb H0) (S : H0.StaysIn s.heap) (hh : A.handled = none) (hroom : A.depth + 2 < recursionLimit) (hu : A.units + 10 < cLine)
   {a : GA} {σ : NS} {kind : Str} {i j : Int} {tk ti tj : Tok} (Z : St w H0 a s.heap σ) (hlen : σ.cells.length < 10000)
   (ret : ∀ h' tk' t σ' r, σ.pair kind i j = (σ', r) → Grow [a.Nd, a.C, a.M, a.O] s.heap h' → St w H0 a h' σ' → Q (.ok (.ret (.int r t))) {s with heap := h', toks := tk'}) :
   codeAny (model PySem.Challenge.rw_on0108_01.row.prog w) A (.call (.ref 187) ⟨[.ref a.G, .str kind tk, .int i ti, .int j tj], []⟩) Q s := Wr.out (by exact Wr.of _ : Wr (by
  refine Z.elimD ?_
  intro vs nC oM oO p1 p2 p3 p4 p5 q1 q2 q3 q4 q5 x tx tc g1 g2 g3 u1 u2 u3 hN hD hC cC hG hGd hM dM hO dO c0 c1 w1 w2 w4 w5 w6 w7 w8 o1 o2 o3 o4 o5 o6 f1 f2 f3 f5 f6 f7 f8 f9 m1 m2 m3 m4 m5 m6 m7 m8 m9 m10 m11 m12 lm lo
  revert X
  k_fill
  intro X
  have led : Led H0 s.heap _ := .cons hG w6 (.cons hGd w5 (.cons hN w2 (.cons hD w1 (.cons hC w4 (.cons hM w7 (.cons hO w8 .nil))))))
  refine' enter X T S led ?k6 ?k7 (by omega) ?k9 ?kB ?_ ?c2 ?c3 ?c4 ?c5
  walk_at "mine is"
  intro g L h1 Xg Tg Sg hg1 hg2 hg3 hL F' N'
  have TG := tupG led hg1 (by walk_at "mine notup")
  have dMg := dM.mono TG
  try dsimp only
  try k_fold
  rcases hq : σ.made [.s kind, .i (min i j), .i (max i j)] with _ | r
  · have hfin : upd σ.made [.s kind, .i (min i j), .i (max i j)] σ.count [.s kind, .i (min i j), .i (max i j)] = some σ.count := by unfold upd; rw [if_pos rfl]
    k_steps
    · rename Fr _ _ _ _ => F'
      rename News _ _ _ _ => N'
      refine callH ?_
      refine add_cell_ (s := ⟨_, _, _, _, _⟩) Xg Tg F'.keep (by exact hh) (by show A.depth + 1 + 1 < _; omega) (newsAt N' (by k_mem)) (newsAt N' (by k_mem)) (newsAt N' (by k_mem)) (newsAt N' (by k_mem))
        (newsOwn N' (by k_mem)) (newsOwn N' (by k_mem)) (newsOwn N' (by k_mem)) (newsOwn N' (by k_mem)) o1 o2 (by k_ne) (by k_ne) (by k_ne) (by rw [cC.length]; omega) (by omega) (by omega) ?_
      intro h2 tk2 ta tb tc2 n2 n3 p1' p2' p3' p4' p5' q1' q2' q3' q4' q5' x' tx' tc' G2 e2 e3 e4 e5
      refine' stepN ?u ?hm G2 F' N' ?_
      case u => walk_at "mine upds"
      case hm => walk_at "mine upds"
      intro F2 N2
      have nl := newsNe N' e5
      replace N2 := newsAdd F' N2 e4 e5
      refine RetTo.mk ?_

      k_steps
      rename Fr _ _ _ _ => F''
      rename News _ _ _ _ => N''
      rename MadeObj _ _ _ _ _ _ => hM2
      have G := grow_of (mods := [a.Nd, a.C, a.M, a.O]) led hg1 hL F'' N'' (by walk_at "mine kept")
      have TI := Z.tup G
      exact ret _ _ _ _ _ (NS.pair_new hq) G (Z.ofAdd TI cC (newsAt N'' (by k_mem)) (newsAt N'' (by k_mem)) (newsAt N'' (by k_mem)) (newsAt N'' (.head _)) (newsAt N'' (.tail _ (.head _))) (.cons (.cons .nil)) (newsAt N'' (by k_mem)) (newsAt N'' (by k_mem)) (newsAt N'' (by k_mem)) (hM2.mono (fun b o e _ => e)) (newsAt N'' (by k_mem)) (dO.le (Nat.mul_le_mul_left _ (Nat.le_succ _))) rfl rfl)
  · k_steps
    rename Fr _ _ _ _ => F'
    rename News _ _ _ _ => N'
    have G := grow_of (mods := []) led hg1 hL F' N' (by walk_at "mine kept")
    exact ret _ _ _ _ _ (NS.pair_some hq) G.any (Z.same G)))
end
-- E5
section
variable {w : World} {A : Around} {s : Shared} {Q : Result → Shared → Prop} {H0 : Heap}
    {loose : List Str} {mean : ExcName → Option Value} {mg mb : Str → Option Value}
set_option maxHeartbeats 8000000 in
theorem areopp_ (X : (pre.heap_1_1 w.params).In H0) (T : Top pre.view_1_2 loose mean mg mb H0) (S : H0.StaysIn s.heap) (hh : A.handled = none) (hroom : A.depth + 0 < recursionLimit)
   {a : GA} {σ : NS} {i j : Int} {ti tj : Tok} (Z : St w H0 a s.heap σ)
   (ret : ∀ h' tk', Grow [] s.heap h' → Q (.ok (.ret (.bool (σ.oppB i j)))) {s with heap := h', toks := tk'}) :
   codeAny (model PySem.Challenge.rw_on0108_01.row.prog w) A (.call (.ref 194) ⟨[.ref a.G, .int i ti, .int j tj], []⟩) Q s := Wr.out (by exact Wr.of _ : Wr (by
  refine Z.elimG ?_
  intro vs nC oD oM oO g1 g2 g3 u1 u2 u3 hN hD nD hC hG hGd hM nM hO dO c0 c1 w1 w2 w4 w5 w6 w7 w8 o1 o2 o3 o4 o5 o6 f1 f2 f3 lm lo
  revert X
  k_fill
  intro X
  have led : Led H0 s.heap _ := .cons hG w6 (.cons hGd w5 (.cons hO w8 .nil))
  refine' enter X T S led ?k6 ?k7 (by omega) ?k9 ?kB ?_ ?c2 ?c3 ?c4 ?c5
  walk_at "mine is"
  intro g L h1 Xg Tg Sg hg1 hg2 hg3 hL F' N'
  try dsimp only
  try k_fold
  k_steps
  rename Fr _ _ _ _ => F'
  rename News _ _ _ _ => N'
  exact ret _ _ (grow_of led hg1 hL F' N' (by walk_at "mine kept"))))
end
local macro_rules | `(tactic| walk_at "mine aropp") => `(tactic| ((try dsimp only); refine callR ?_; (refine' areopp_ (s := ⟨_, _, _, _, _⟩) ?X ?T ?S ?h ?r ?Z ?_; (case Z => assumption); (case X => assumption); (case T => assumption); (case S => exact Fr.keep (by k_asm)); (case h => assumption); (case r => (show _ + 1 + _ < _; omega)); intro h' tk' G'; (refine' stepN ?u ?hm G' ?F ?N ?_; (case F => k_asm); (case N => k_asm); (case u => walk_at "mine upds"); (case hm => walk_at "mine upds")); intro F' N'; (have Z' := St.same (by assumption) G'); refine RetTo.mk ?_; (try k_sweep))))
-- E6
section
variable {w : World} {A : Around} {s : Shared} {Q : Result → Shared → Prop} {H0 : Heap}
    {loose : List Str} {mean : ExcName → Option Value} {mg mb : Str → Option Value}
local macro_rules | `(tactic| walk_at "call ref") => `(tactic| k_dflt (first | walk_at "mine aropp" | refine Hold.out ?_))
set_option maxHeartbeats 8000000 in
theorem both_ (X : (pre.heap_1_1 w.params).In H0) (T : Top pre.view_1_2 loose mean mg mb H0) (S : H0.StaysIn s.heap) (hh : A.handled = none) (hroom : A.depth + 3 < recursionLimit) (hu : A.units + 13 < cLine)
   {a : GA} {σ : NS} {i j : Int} {ti tj : Tok} (Z : St w H0 a s.heap σ) (hlen : σ.cells.length < 10000)
   (ret : ∀ h' tk' t σ' r, σ.both i j = (σ', r) → Grow [a.Nd, a.C, a.M, a.O] s.heap h' → St w H0 a h' σ' → Q (.ok (.ret (.int r t))) {s with heap := h', toks := tk'}) :
   codeAny (model PySem.Challenge.rw_on0108_01.row.prog w) A (.call (.ref 208) ⟨[.ref a.G, .int i ti, .int j tj], []⟩) Q s := Wr.out (by exact Wr.of _ : Wr (by
  refine Z.elimG ?_
  intro vs nC oD oM oO g1 g2 g3 u1 u2 u3 hN hD nD hC hG hGd hM nM hO dO c0 c1 w1 w2 w4 w5 w6 w7 w8 o1 o2 o3 o4 o5 o6 f1 f2 f3 lm lo
  revert X
  k_fill
  intro X
  have led : Led H0 s.heap _ := .cons hG w6 (.cons hGd w5 (.cons hN w2 (.cons hD w1 (.cons hC w4 (.cons hM w7 (.cons hO w8 .nil))))))
  refine' enter X T S led ?k6 ?k7 (by omega) ?k9 ?kB ?_ ?c2 ?c3 ?c4 ?c5
  walk_at "mine is"
  intro g L h1 Xg Tg Sg hg1 hg2 hg3 hL F' N'
  have Z1 : St w g a h1 σ := Z.keeps hg3 ⟨by walk_at "mine at", by walk_at "mine at", by walk_at "mine at", by walk_at "mine at", by walk_at "mine at", by walk_at "mine at", by walk_at "mine at"⟩
  try dsimp only
  try k_fold
  k_steps
  all_goals (rename Fr _ _ _ _ => F'; rename News _ _ _ _ => N'; have G := grow_of (mods := []) led hg1 hL F' N' (by walk_at "mine kept"))
  all_goals try dsimp only
  all_goals first
    | exact ret _ _ _ σ _ (by unfold NS.both; grind) G.any (Z.same G)
    | (refine callH ?_
       refine' pairC (s := ⟨_, _, _, _, _⟩) Xg Tg F'.keep ?h ?r ?u ?Z hlen ?_
       case Z => assumption
       case h => assumption
       case r => (show _ + 1 + _ < _; omega)
       case u => (show _ + 3 + _ < _; omega)
       intro h2 tk2 t2 σ2 r2 e2 G2 Z2
       refine RetTo.mk ?_
       try dsimp only
       exact ret _ _ _ σ2 _ (by unfold NS.both; grind) (G.then G2) (Z2.own' Z.own))))
end
-- E7
section
variable {w : World} {A : Around} {s : Shared} {Q : Result → Shared → Prop} {H0 : Heap}
    {loose : List Str} {mean : ExcName → Option Value} {mg mb : Str → Option Value}
local macro_rules | `(tactic| walk_at "call ref") => `(tactic| k_dflt (first | walk_at "mine aropp" | refine Hold.out ?_))
local macro_rules | `(tactic| walk_at "mine idle 0") => `(tactic| skip)
set_option maxHeartbeats 8000000 in
theorem either_ (X : (pre.heap_1_1 w.params).In H0) (T : Top pre.view_1_2 loose mean mg mb H0) (S : H0.StaysIn s.heap) (hh : A.handled = none) (hroom : A.depth + 3 < recursionLimit) (hu : A.units + 13 < cLine)
   {a : GA} {σ : NS} {i j : Int} {ti tj : Tok} (Z : St w H0 a s.heap σ) (hlen : σ.cells.length < 10000)
   (ret : ∀ h' tk' t σ' r, σ.either i j = (σ', r) → Grow [a.Nd, a.C, a.M, a.O] s.heap h' → St w H0 a h' σ' → Q (.ok (.ret (.int r t))) {s with heap := h', toks := tk'}) :
   codeAny (model PySem.Challenge.rw_on0108_01.row.prog w) A (.call (.ref 215) ⟨[.ref a.G, .int i ti, .int j tj], []⟩) Q s := Wr.out (by exact Wr.of _ : Wr (by
  refine Z.elimG ?_
  intro vs nC oD oM oO g1 g2 g3 u1 u2 u3 hN hD nD hC hG hGd hM nM hO dO c0 c1 w1 w2 w4 w5 w6 w7 w8 o1 o2 o3 o4 o5 o6 f1 f2 f3 lm lo
  revert X
  k_fill
  intro X
  have led : Led H0 s.heap _ := .cons hG w6 (.cons hGd w5 (.cons hN w2 (.cons hD w1 (.cons hC w4 (.cons hM w7 (.cons hO w8 .nil))))))
  refine' enter X T S led ?k6 ?k7 (by omega) ?k9 ?kB ?_ ?c2 ?c3 ?c4 ?c5
  walk_at "mine is"
  intro g L h1 Xg Tg Sg hg1 hg2 hg3 hL F' N'
  have Z1 : St w g a h1 σ := Z.keeps hg3 ⟨by walk_at "mine at", by walk_at "mine at", by walk_at "mine at", by walk_at "mine at", by walk_at "mine at", by walk_at "mine at", by walk_at "mine at"⟩
  try dsimp only
  try k_fold
  k_steps
  all_goals (rename Fr _ _ _ _ => F'; rename News _ _ _ _ => N'; have G := grow_of (mods := []) led hg1 hL F' N' (by walk_at "mine kept"))
  all_goals try dsimp only
  all_goals first
    | exact ret _ _ _ σ _ (by unfold NS.either; grind) G.any (Z.same G)
    | (refine callH ?_
       refine' pairC (s := ⟨_, _, _, _, _⟩) Xg Tg F'.keep ?h ?r ?u ?Z hlen ?_
       case Z => assumption
       case h => assumption
       case r => (show _ + 1 + _ < _; omega)
       case u => (show _ + 3 + _ < _; omega)
       intro h2 tk2 t2 σ2 r2 e2 G2 Z2
       refine RetTo.mk ?_
       try dsimp only
       exact ret _ _ _ σ2 _ (by unfold NS.either; grind) (G.then G2) (Z2.own' Z.own))))
set_option maxHeartbeats 8000000 in
theorem differ_ (X : (pre.heap_1_1 w.params).In H0) (T : Top pre.view_1_2 loose mean mg mb H0) (S : H0.StaysIn s.heap) (hh : A.handled = none) (hroom : A.depth + 3 < recursionLimit) (hu : A.units + 13 < cLine)
   {a : GA} {σ : NS} {i j : Int} {ti tj : Tok} (Z : St w H0 a s.heap σ) (hlen : σ.cells.length < 10000) (i0 : 0 ≤ i) (i1 : i < σ.count) (j0 : 0 ≤ j) (j1 : j < σ.count)
   (ret : ∀ h' tk' t σ' r, σ.differ i j = (σ', r) → Grow [a.Nd, a.C, a.M, a.O] s.heap h' → St w H0 a h' σ' → Q (.ok (.ret (.int r t))) {s with heap := h', toks := tk'}) :
   codeAny (model PySem.Challenge.rw_on0108_01.row.prog w) A (.call (.ref 222) ⟨[.ref a.G, .int i ti, .int j tj], []⟩) Q s := Wr.out (by exact Wr.of _ : Wr (by
  refine Z.elimG ?_
  intro vs nC oD oM oO g1 g2 g3 u1 u2 u3 hN hD nD hC hG hGd hM nM hO dO c0 c1 w1 w2 w4 w5 w6 w7 w8 o1 o2 o3 o4 o5 o6 f1 f2 f3 lm lo
  revert X
  k_fill
  intro X
  have led : Led H0 s.heap _ := .cons hG w6 (.cons hGd w5 (.cons hN w2 (.cons hD w1 (.cons hC w4 (.cons hM w7 (.cons hO w8 .nil))))))
  refine' enter X T S led ?k6 ?k7 (by omega) ?k9 ?kB ?_ ?c2 ?c3 ?c4 ?c5
  walk_at "mine is"
  intro g L h1 Xg Tg Sg hg1 hg2 hg3 hL F' N'
  have Z1 : St w g a h1 σ := Z.keeps hg3 ⟨by walk_at "mine at", by walk_at "mine at", by walk_at "mine at", by walk_at "mine at", by walk_at "mine at", by walk_at "mine at", by walk_at "mine at"⟩
  try dsimp only
  try k_fold
  k_steps
  all_goals (rename Fr _ _ _ _ => F'; rename News _ _ _ _ => N'; have G := grow_of (mods := []) led hg1 hL F' N' (by walk_at "mine kept"))
  all_goals try dsimp only
  all_goals first
    | exact ret _ _ _ σ _ (by unfold NS.differ; grind) G.any (Z.same G)
    | (refine callH ?_
       refine' pairC (s := ⟨_, _, _, _, _⟩) Xg Tg F'.keep ?h ?r ?u ?Z hlen ?_
       case Z => assumption
       case h => assumption
       case r => (show _ + 1 + _ < _; omega)
       case u => (show _ + 3 + _ < _; omega)
       intro h2 tk2 t2 σ2 r2 e2 G2 Z2
       refine RetTo.mk ?_
       try dsimp only
       exact ret _ _ _ σ2 _ (by unfold NS.differ; grind) (G.then G2) (Z2.own' Z.own))
    | (refine callH ?_
       refine' invC (s := ⟨_, _, _, _, _⟩) Xg Tg F'.keep ?h ?r ?Z ?a ?b hlen ?_
       case Z => assumption
       case h => assumption
       case a => assumption
       case b => assumption
       case r => (show _ + 1 + _ < _; omega)
       intro h2 tk2 t2 σ2 r2 e2 G2 Z2
       refine RetTo.mk ?_
       try dsimp only
       exact ret _ _ _ σ2 _ (by unfold NS.differ; grind) (G.then G2) (Z2.own' Z.own))))
end
-- E8
section
variable {w : World} {A : Around} {s : Shared} {Q : Result → Shared → Prop} {H0 : Heap}
    {loose : List Str} {mean : ExcName → Option Value} {mg mb : Str → Option Value}
local macro_rules | `(tactic| k_lt $x:ident) => `(tactic| skip)
local macro_rules | `(tactic| walk_at "call ref") => `(tactic| k_dflt (first | walk_at "mine aropp" | refine Hold.out ?_))
set_option maxHeartbeats 16000000 in
theorem mux_ (X : (pre.heap_1_1 w.params).In H0) (T : Top pre.view_1_2 loose mean mg mb H0) (S : H0.StaysIn s.heap) (hh : A.handled = none) (hroom : A.depth + 4 < recursionLimit) (hu : A.units + 16 < cLine)
   {a : GA} {σ : NS} {k i j : Int} {tk ti tj : Tok} (Z : St w H0 a s.heap σ) (hlen : σ.cells.length < 9999) (k0 : 0 ≤ k) (k1 : k < σ.count) (i0 : 0 ≤ i) (i1 : i < σ.count)
   (ret : ∀ h' tk' t σ' r, σ.mux k i j = (σ', r) → Grow [a.Nd, a.C, a.M, a.O] s.heap h' → St w H0 a h' σ' → Q (.ok (.ret (.int r t))) {s with heap := h', toks := tk'}) :
   codeAny (model PySem.Challenge.rw_on0108_01.row.prog w) A (.call (.ref 236) ⟨[.ref a.G, .int k tk, .int i ti, .int j tj], []⟩) Q s := Wr.out (by exact Wr.of _ : Wr (by
  refine Z.elimD ?_
  intro vs nC oM oO p1 p2 p3 p4 p5 q1 q2 q3 q4 q5 x tx tc g1 g2 g3 u1 u2 u3 hN hD hC cC hG hGd hM dM hO dO c0 c1 w1 w2 w4 w5 w6 w7 w8 o1 o2 o3 o4 o5 o6 f1 f2 f3 f5 f6 f7 f8 f9 m1 m2 m3 m4 m5 m6 m7 m8 m9 m10 m11 m12 lm lo
  revert X
  k_fill
  intro X
  have led : Led H0 s.heap _ := .cons hG w6 (.cons hGd w5 (.cons hN w2 (.cons hD w1 (.cons hC w4 (.cons hM w7 (.cons hO w8 .nil))))))
  refine' enter X T S led ?k6 ?k7 (by omega) ?k9 ?kB ?_ ?c2 ?c3 ?c4 ?c5
  walk_at "mine is"
  intro g L h1 Xg Tg Sg hg1 hg2 hg3 hL F' N'
  have TG := tupG led hg1 (by walk_at "mine notup")
  have dMg := dM.mono TG
  have Z1 : St w g a h1 σ := Z.keeps hg3 ⟨by walk_at "mine at", by walk_at "mine at", by walk_at "mine at", by walk_at "mine at", by walk_at "mine at", by walk_at "mine at", by walk_at "mine at"⟩
  try dsimp only
  try k_fold
  k_steps
  all_goals (rename Fr _ _ _ _ => F'; rename News _ _ _ _ => N')
  all_goals try dsimp only
  all_goals first
    | (have G := grow_of (mods := []) led hg1 hL F' N' (by walk_at "mine kept")
       exact ret _ _ _ σ _ (by unfold NS.mux; grind) G.any (Z.same G))
    | ((with_reducible show wpAny _ _ (compareOp _ _ _) _ _ _); skip)
    | (have G := grow_of (mods := []) led hg1 hL F' N' (by walk_at "mine kept")
       first
       | (refine callH ?_
          refine' both_ (s := ⟨_, _, _, _, _⟩) (σ := σ) Xg Tg F'.keep ?h ?r ?u ?Z (by omega) ?_
          case Z => assumption
          case h => assumption
          case r => (show _ + 1 + _ < _; omega)
          case u => (show _ + 3 + _ < _; omega)
          intro h2 tk2 t2 σ2 r2 e2 G2 Z2
          refine RetTo.mk ?_
          try dsimp only
          exact ret _ _ _ σ2 _ (by unfold NS.mux; grind) (G.then G2) (Z2.own' Z.own))
       | (refine callH ?_
          refine' either_ (s := ⟨_, _, _, _, _⟩) (σ := σ) Xg Tg F'.keep ?h ?r ?u ?Z (by omega) ?_
          case Z => assumption
          case h => assumption
          case r => (show _ + 1 + _ < _; omega)
          case u => (show _ + 3 + _ < _; omega)
          intro h2 tk2 t2 σ2 r2 e2 G2 Z2
          refine RetTo.mk ?_
          try dsimp only
          exact ret _ _ _ σ2 _ (by unfold NS.mux; grind) (G.then G2) (Z2.own' Z.own))
       | (refine callH ?_
          refine' differ_ (s := ⟨_, _, _, _, _⟩) (σ := σ) Xg Tg F'.keep ?h ?r ?u ?Z (by omega) k0 k1 i0 i1 ?_
          case Z => assumption
          case h => assumption
          case r => (show _ + 1 + _ < _; omega)
          case u => (show _ + 3 + _ < _; omega)
          intro h2 tk2 t2 σ2 r2 e2 G2 Z2
          refine RetTo.mk ?_
          try dsimp only
          exact ret _ _ _ σ2 _ (by unfold NS.mux; grind) (G.then G2) (Z2.own' Z.own))
       | (refine callH ?_
          refine' invC (s := ⟨_, _, _, _, _⟩) (σ := σ) Xg Tg F'.keep ?h ?r ?Z k0 k1 (by omega) ?_
          case Z => assumption
          case h => assumption
          case r => (show _ + 1 + _ < _; omega)
          intro h2 tk2 t2 σ2 r2 e2 G2 Z2
          have l2 := σ.inv_len k
          rw [e2] at l2
          dsimp only at l2
          refine Z2.elimB ?_
          intro oD2 vs2 n2 oM2 oO2 hD2 hC2 hM2 hO2
          refine' stepN ?u ?hm G2 F' N' ?_
          case u => walk_at "mine upds"
          case hm => walk_at "mine upds"
          intro F2 N2
          refine RetTo.mk ?_
          k_steps
          rename Fr _ _ _ _ => F3
          try dsimp only
          refine callH ?_
          first
          | (refine' both_ (s := ⟨_, _, _, _, _⟩) (σ := σ2) Xg Tg F3.keep ?h ?r ?u ?Z (by omega) ?_
             case Z => assumption
             case h => assumption
             case r => (show _ + 1 + _ < _; omega)
             case u => (show _ + 3 + _ < _; omega)
             intro h3 tk3 t3 σ3 r3 e3 G3 Z3
             refine RetTo.mk ?_
             try dsimp only
             exact ret _ _ _ σ3 _ (by unfold NS.mux; rw [e2]; grind) ((G.then G2).trans' G3) (Z3.own' Z.own))
          | (refine' either_ (s := ⟨_, _, _, _, _⟩) (σ := σ2) Xg Tg F3.keep ?h ?r ?u ?Z (by omega) ?_
             case Z => assumption
             case h => assumption
             case r => (show _ + 1 + _ < _; omega)
             case u => (show _ + 3 + _ < _; omega)
             intro h3 tk3 t3 σ3 r3 e3 G3 Z3
             refine RetTo.mk ?_
             try dsimp only
             exact ret _ _ _ σ3 _ (by unfold NS.mux; rw [e2]; grind) ((G.then G2).trans' G3) (Z3.own' Z.own))
          | skip))
  rcases hq : σ.made [.s sMux, .i k, .i i, .i j] with _ | r
  · have hfin : upd σ.made [.s sMux, .i k, .i i, .i j] σ.count [.s sMux, .i k, .i i, .i j] = some σ.count := by unfold upd; rw [if_pos rfl]
    k_steps
    rename Fr _ _ _ _ => F3
    rename News _ _ _ _ => N3
    try dsimp only
    refine callH ?_
    refine add_cell_ (s := ⟨_, _, _, _, _⟩) Xg Tg F3.keep (by exact hh) (by show A.depth + 1 + 1 < _; omega) (newsAt N3 (by k_mem)) (newsAt N3 (by k_mem)) (newsAt N3 (by k_mem)) (newsAt N3 (by k_mem))
      (newsOwn N3 (by k_mem)) (newsOwn N3 (by k_mem)) (newsOwn N3 (by k_mem)) (newsOwn N3 (by k_mem)) o1 o2 (by k_ne) (by k_ne) (by k_ne) (by rw [cC.length]; omega) (by omega) (by omega) ?_
    intro h2 tk2 ta tb tc2 n2 n3 p1' p2' p3' p4' p5' q1' q2' q3' q4' q5' x' tx' tc' G2 e2 e3 e4 e5
    refine' stepN ?u ?hm G2 F3 N3 ?_
    case u => walk_at "mine upds"
    case hm => walk_at "mine upds"
    intro F2 N2
    have nl := newsNe N3 e5
    replace N2 := newsAdd F3 N2 e4 e5
    refine RetTo.mk ?_
    k_steps
    rename Fr _ _ _ _ => F''
    rename News _ _ _ _ => N''
    rename MadeObj _ _ _ _ _ _ => hM2
    have G := grow_of (mods := [a.Nd, a.C, a.M, a.O]) led hg1 hL F'' N'' (by walk_at "mine kept")
    have TI := Z.tup G
    exact ret _ _ _ ((σ.add sMux [k, i, j]).put [.s sMux, .i k, .i i, .i j] σ.count) _ (by unfold NS.mux NS.once; grind) G (Z.ofAdd TI cC (newsAt N'' (by k_mem)) (newsAt N'' (by k_mem)) (newsAt N'' (by k_mem)) (newsAt N'' (.head _)) (newsAt N'' (.tail _ (.head _))) (.cons (.cons (.cons .nil))) (newsAt N'' (by k_mem)) (newsAt N'' (by k_mem)) (newsAt N'' (by k_mem)) (hM2.mono (fun b o e _ => e)) (newsAt N'' (by k_mem)) (dO.le (Nat.mul_le_mul_left _ (Nat.le_succ _))) rfl rfl)
  · k_steps
    rename Fr _ _ _ _ => F3
    rename News _ _ _ _ => N3
    have G := grow_of (mods := []) led hg1 hL F3 N3 (by walk_at "mine kept")
    exact ret _ _ _ σ _ (by unfold NS.mux NS.once; grind) G.any (Z.same G)))
end
-- E9
section
variable {w : World} {A : Around} {s : Shared} {Q : Result → Shared → Prop} {H0 : Heap}
    {loose : List Str} {mean : ExcName → Option Value} {mg mb : Str → Option Value}
inductive Lt where | z | o | x | b | q
  deriving DecidableEq
noncomputable def Lt.str : Lt → Str | .z => Str.ofString "0" | .o => Str.ofString "1" | .x => Str.ofString "x" | .b => Str.ofString "b" | .q => Str.ofString "?"
noncomputable def Lt.codes : Lt → List Int | .z => [0] | .o => [1] | .x => [3] | .b => [0, 1] | .q => [0, 1, 3]
inductive Ot where | z | o | x
  deriving DecidableEq
noncomputable def Ot.str : Ot → Str | .z => Str.ofString "0" | .o => Str.ofString "1" | .x => Str.ofString "x"
noncomputable def Ot.code : Ot → Int | .z => 0 | .o => 1 | .x => 3

set_option maxHeartbeats 8000000 in
theorem codes_ (X : (pre.heap_1_1 w.params).In H0) (T : Top pre.view_1_2 loose mean mg mb H0) (S : H0.StaysIn s.heap) (hh : A.handled = none) (hroom : A.depth + 0 < recursionLimit)
   {l : Lt} {t : Tok}
   (ret : ∀ h' tk' D vs n, Grow [] s.heap h' → s.heap.get? D = none → h'.get? D = some (tupOf vs n) → Ints vs l.codes → Q (.ok (.ret (.ref D))) {s with heap := h', toks := tk'}) :
   codeAny (model PySem.Challenge.rw_on0108_01.row.prog w) A (.call (.ref 49) ⟨[.str l.str t], []⟩) Q s := Wr.out (by exact Wr.of _ : Wr (by
  revert X
  k_fill
  intro X
  have led : Led H0 s.heap _ := .nil
  cases l
  all_goals dsimp only [Lt.str, Lt.codes] at ret ⊢
  all_goals (
    refine' enter X T S led ?k6 ?k7 (by omega) ?k9 ?kB ?_ ?c2 ?c3 ?c4 ?c5
    walk_at "mine is"
    intro g L h1 Xg Tg Sg hg1 hg2 hg3 hL F' N'
    try dsimp only
    try k_fold
    k_steps)
  all_goals (rename Fr _ _ _ _ => F'; rename News _ _ _ _ => N')
  all_goals exact ret _ _ _ _ _ (grow_of led hg1 hL F' N' .nil) (fresh_of hg1 N' (.head _) (by simp)) (newsAt N' (.head _)) (by repeat constructor)))

set_option maxHeartbeats 8000000 in
theorem edge_ (X : (pre.heap_1_1 w.params).In H0) (T : Top pre.view_1_2 loose mean mg mb H0) (S : H0.StaysIn s.heap) (hh : A.handled = none) (hroom : A.depth + 0 < recursionLimit)
   {l : Lt} {t : Tok}
   (ret : ∀ h' tk', Grow [] s.heap h' → Q (.ok (.ret (.bool false))) {s with heap := h', toks := tk'}) :
   codeAny (model PySem.Challenge.rw_on0108_01.row.prog w) A (.call (.ref 56) ⟨[.str l.str t], []⟩) Q s := Wr.out (by exact Wr.of _ : Wr (by
  revert X
  k_fill
  intro X
  have led : Led H0 s.heap _ := .nil
  cases l
  all_goals dsimp only [Lt.str, Lt.codes] at ret ⊢
  all_goals (
    refine' enter X T S led ?k6 ?k7 (by omega) ?k9 ?kB ?_ ?c2 ?c3 ?c4 ?c5
    walk_at "mine is"
    intro g L h1 Xg Tg Sg hg1 hg2 hg3 hL F' N'
    try dsimp only
    try k_fold
    k_steps)
  all_goals (rename Fr _ _ _ _ => F'; rename News _ _ _ _ => N')
  all_goals first | exact ret _ _ (grow_of led hg1 hL F' N' .nil) | (exfalso; omega)))

set_option maxHeartbeats 8000000 in
theorem out_ (X : (pre.heap_1_1 w.params).In H0) (T : Top pre.view_1_2 loose mean mg mb H0) (S : H0.StaysIn s.heap) (hh : A.handled = none) (hroom : A.depth + 1 < recursionLimit)
   {l : Ot} {t t3 : Tok}
   (ret : ∀ h' tk' t', Grow [] s.heap h' → Q (.ok (.ret (.int l.code t'))) {s with heap := h', toks := tk'}) :
   codeAny (model PySem.Challenge.rw_on0108_01.row.prog w) A (.call (.ref 63) ⟨[.str l.str t, .int 3 t3], []⟩) Q s := Wr.out (by exact Wr.of _ : Wr (by
  revert X
  k_fill
  intro X
  have led : Led H0 s.heap _ := .nil
  cases l
  all_goals dsimp only [Ot.str, Ot.code] at ret ⊢
  all_goals (
    refine' enter X T S led ?k6 ?k7 (by omega) ?k9 ?kB ?_ ?c2 ?c3 ?c4 ?c5
    walk_at "mine is"
    intro g L h1 Xg Tg Sg hg1 hg2 hg3 hL F' N'
    try dsimp only
    try k_fold
    k_steps)
  all_goals (rename Fr _ _ _ _ => F'; rename News _ _ _ _ => N')
  all_goals (
    try dsimp only
    (first | refine callH ?_ | refine callR ?_)
    first
      | refine codes_ (s := ⟨_, _, _, _, _⟩) (l := Lt.z) Xg Tg F'.keep (by exact hh) (by show _ + 1 + _ < _; omega) ?_
      | refine codes_ (s := ⟨_, _, _, _, _⟩) (l := Lt.o) Xg Tg F'.keep (by exact hh) (by show _ + 1 + _ < _; omega) ?_
      | refine codes_ (s := ⟨_, _, _, _, _⟩) (l := Lt.x) Xg Tg F'.keep (by exact hh) (by show _ + 1 + _ < _; omega) ?_
    intro h' tk' D vs n G' fr e iv
    cases iv with | cons iv => ?_
    cases iv
    refine' stepN ?u ?hm G' F' N' ?_
    case u => walk_at "mine upds"
    case hm => walk_at "mine upds"
    intro F2 N2
    replace N2 := newsAdd F' N2 e fr
    (first | refine RetTo.mk ?_ | refine ⟨_, rfl, ?_⟩)
    k_steps)
  all_goals (rename Fr _ _ _ _ => F'; rename News _ _ _ _ => N')
  all_goals exact ret _ _ _ (grow_of led hg1 hL F' N' .nil)))

set_option maxHeartbeats 8000000 in
theorem plain_ (X : (pre.heap_1_1 w.params).In H0) (T : Top pre.view_1_2 loose mean mg mb H0) (S : H0.StaysIn s.heap) (hh : A.handled = none) (hroom : A.depth + 0 < recursionLimit)
   {k : Int} {t : Tok} (hk : k ≠ 2)
   (ret : ∀ h' tk', Grow [] s.heap h' → Q (.ok (.ret (.int k t))) {s with heap := h', toks := tk'}) :
   codeAny (model PySem.Challenge.rw_on0108_01.row.prog w) A (.call (.ref 70) ⟨[.int k t], []⟩) Q s := Wr.out (by exact Wr.of _ : Wr (by
  revert X
  k_fill
  intro X
  have led : Led H0 s.heap _ := .nil
  refine' enter X T S led ?k6 ?k7 (by omega) ?k9 ?kB ?_ ?c2 ?c3 ?c4 ?c5
  walk_at "mine is"
  intro g L h1 Xg Tg Sg hg1 hg2 hg3 hL F' N'
  try dsimp only
  try k_fold
  k_steps
  all_goals (rename Fr _ _ _ _ => F'; rename News _ _ _ _ => N')
  all_goals first | exact ret _ _ (grow_of led hg1 hL F' N' .nil) | (exfalso; omega)))
end
-- E10
section
variable {w : World} {A : Around} {s : Shared} {Q : Result → Shared → Prop} {H0 : Heap}
    {loose : List Str} {mean : ExcName → Option Value} {mg mb : Str → Option Value}
inductive Strs : List Value → List Lt → Prop where
  | nil : Strs [] []
  | cons {l : Lt} {t : Tok} {vs : List Value} {ls : List Lt} : Strs vs ls → Strs (.str l.str t :: vs) (l :: ls)
theorem Strs.length {vs : List Value} {ls : List Lt} (x : Strs vs ls) : vs.length = ls.length := by
  induction x with
  | nil => rfl
  | cons _ ih => simp [ih]
theorem Strs.at {vs : List Value} {ls : List Lt} (x : Strs vs ls) : ∀ {i : Nat} {l : Lt}, ls[i]? = some l → ∃ t, vs[i]? = some (.str l.str t) := by
  induction x with
  | nil => intro i l h; simp at h
  | cons _ ih =>
    intro i l h
    cases i with
    | zero => simp at h; subst h; exact ⟨_, rfl⟩
    | succ i => simp at h ⊢; exact ih h
theorem Ints.length {vs : List Value} {ls : List Int} (x : Ints vs ls) : vs.length = ls.length := by
  induction x with
  | nil => rfl
  | cons _ ih => simp [ih]
theorem Ints.at {vs : List Value} {ls : List Int} (x : Ints vs ls) : ∀ {i : Nat} {l : Int}, ls[i]? = some l → ∃ t, vs[i]? = some (.int l t) := by
  induction x with
  | nil => intro i l h; simp at h
  | cons _ ih =>
    intro i l h
    cases i with
    | zero => simp at h; subst h; exact ⟨_, rfl⟩
    | succ i => simp at h ⊢; exact ih h

noncomputable def matchB : List Lt → List Int → Bool
  | l :: ls, c :: cs => l.codes.any (· == c) && matchB ls cs
  | _, _ => true

local macro_rules | `(tactic| walk_at "exec For Name Call cons nil") => `(tactic| (k_here; (rename Fr _ _ _ _ => lF'); (with_unfolding_all refine' For_invVF lF' ?k1 ?k2 ?_; (case k1 => exact rfl); (case k2 => exact rfl); k_whole)))

theorem matchStep {ls : List Lt} {cs : List Int} {vs ws : List Value} {i : Nat} (iv : Strs vs ls) (iw : Ints ws cs) (hlen : ls.length = cs.length) (hi : i < ls.length)
    {Q : Prop} (k : ∀ l c t1 t2, vs[i]? = some (.str (Lt.str l) t1) → ws[i]? = some (.int c t2) → matchB (ls.drop i) (cs.drop i) = (l.codes.any (· == c) && matchB (ls.drop (i + 1)) (cs.drop (i + 1))) → Q) : Q := by
  have hl : ls[i]? = some ls[i] := List.getElem?_eq_getElem hi
  have hi2 : i < cs.length := by omega
  have hc : cs[i]? = some cs[i] := List.getElem?_eq_getElem hi2
  obtain ⟨t1, hv⟩ := iv.at hl
  obtain ⟨t2, hw⟩ := iw.at hc
  refine k _ _ t1 t2 hv hw ?_
  rw [List.drop_eq_getElem_cons hi, List.drop_eq_getElem_cons hi2]
  rfl
local macro_rules | `(tactic| k_lt $x:ident) => `(tactic| skip)
set_option maxHeartbeats 8000000 in
theorem match_ (X : (pre.heap_1_1 w.params).In H0) (T : Top pre.view_1_2 loose mean mg mb H0) (S : H0.StaysIn s.heap) (hh : A.handled = none) (hroom : A.depth + 1 < recursionLimit)
   {Tl Cl nl nc : Nat} {vs ws : List Value} {ls : List Lt} {cs : List Int} {t : Tok} (hT : s.heap.get? Tl = some (tupOf vs nl)) (hC : s.heap.get? Cl = some (listOf ws.toArray nc)) (iv : Strs vs ls) (iw : Ints ws cs) (hlen : ls.length = cs.length) (hle : ls.length ≤ 100) (ho' : H0.get? Cl = none)
   (ret : ∀ h' tk', Grow [] s.heap h' → Q (.ok (.ret (.bool (matchB ls cs)))) {s with heap := h', toks := tk'}) :
   codeAny (model PySem.Challenge.rw_on0108_01.row.prog w) A (.call (.ref 77) ⟨[.ref Tl, .ref Cl, .int (-1) t], []⟩) Q s := Wr.out (by exact Wr.of _ : Wr (by
  revert X
  k_fill
  intro X
  have led : Led H0 s.heap _ := .cons hC ho' .nil
  refine' enter X T S led ?k6 ?k7 (by omega) ?k9 ?kB ?_ ?c2 ?c3 ?c4 ?c5
  walk_at "mine is"
  intro g L h1 Xg Tg Sg hg1 hg2 hg3 hL F' N'
  try dsimp only
  try k_fold
  have hvl := iv.length
  have hgT := tupG led hg1 (by walk_at "mine notup") _ _ hT (isT _ _)
  k_steps
  refine ⟨?_⟩
  obtain ⟨J, hJe⟩ : ∃ J : Nat → (Str → Option Value) → List (Addr × Obj) → Prop, J = fun i _ nx => FixJ [(Cl, listOf ws.toArray nc)] (matchB ls cs = matchB (ls.drop i) (cs.drop i)) nx := ⟨_, rfl⟩
  refine' for_range (n := ls.length) [] J (by exact hh) (by assumption) (by omega) (by omega) ?F ?N (JH hJe (.mk rfl)) ?_ ?_
  case F => k_asm
  case N => k_asm
  · intro i ti u news₁ h2 tk2 I oI hi hj hoI hne F2 N2
    obtain ⟨hJ⟩ := JE hJe hj
    have zI := hne.1
    refine matchStep iv iw hlen hi ?_
    intro l c t1 t2 hv hw hJ'
    replace hJ' := hJ.trans hJ'
    try k_fold
    k_steps
    · exfalso; omega
    rename Fr _ _ _ _ => F3
    rename News _ _ _ _ => N3
    refine callH ?_
    refine edge_ (s := ⟨_, _, _, _, _⟩) Xg Tg F3.keep (by exact hh) (by show _ + 1 + _ < _; omega) ?_
    intro h3 tk3 G3
    refine step0 G3 F3 N3 ?_
    intro F4 N4
    refine RetTo.mk ?_
    k_steps
    rename Fr _ _ _ _ => F5
    rename News _ _ _ _ => N5
    refine callH ?_
    refine codes_ (s := ⟨_, _, _, _, _⟩) Xg Tg F5.keep (by exact hh) (by show _ + 1 + _ < _; omega) ?_
    intro h6 tk6 D vd nd G6 fr6 e6 iv6
    refine step0 G6 F5 N5 ?_
    intro F6 N6
    have nq := newsNe N5 fr6
    replace N6 := newsAdd F5 N6 e6 fr6
    refine RetTo.mk ?_
    k_steps
    all_goals (rename Fr _ _ _ _ => F7; rename News _ _ _ _ => N7)
    · rename (l.codes.any _) = true => q
      exact Post.next (news' := [(Cl, listOf ws.toArray nc)]) F7 (AllIn.news (r := [(Cl, listOf ws.toArray nc), (I, oI)]) (by walk_at "mine allin") N7) hne ⟨JH hJe (.mk (by rw [hJ', q, Bool.true_and])), by walk_at "mine offr"⟩
    · rename (l.codes.any _) = false => q
      rw [hJ', q, Bool.false_and] at ret
      exact ret _ _ (grow_of led hg1 hL F7 N7 (by walk_at "mine kept"))
  · intro u news₁ h2 tk2 hj F2 N2
    obtain ⟨hJ⟩ := JE hJe hj
    try k_fold
    k_steps
    have e : matchB ls cs = true := by rw [hJ, List.drop_length]; simp [matchB]
    rw [e] at ret
    exact ret _ _ (grow_of led hg1 hL F2 N2 (by walk_at "mine kept"))))
end
-- E11
section
variable {w : World} {A : Around} {s : Shared} {Q : Result → Shared → Prop} {H0 : Heap}
    {loose : List Str} {mean : ExcName → Option Value} {mg mb : Str → Option Value}
section
variable {prog : Program} {w : World} {A : Around} {E : Value → Shared → Prop} {s : Shared} {env : Env} {g : Heap} {target : PySem.Expr} {body : List Stmt} {Q : Flow → Shared → Prop}

theorem loopT_one {R : Result → Shared → Prop} {I : Addr} {fp : List Addr} {n : Nat} {P : Nat → Value → Prop} {W0 : Nat → Heap → Prop} {C : Obj → Prop} {m₀ : Str → Option Value} {news : List (Addr × Obj)} (J : Nat → (Str → Option Value) → List (Addr × Obj) → Prop)
    (W : Walks prog w A I fp [I] n P W0) (hLf : env.locals ∉ fp) (hI : g.get? I = none) (hfp : ∀ b ∈ fp, b = I ∨ g.get? b ≠ none) (hnw : AllNe I news) (hst : W0 0 s.heap) (hC : ∀ i h, W0 i h → ∃ o, h.get? I = some o ∧ C o)
    (hgo : ∀ i (s' : Shared) v (Q' : Unit → Shared → Prop), W0 i s'.heap → Q' () s' → wpAny (model prog w) A (letOwnedTupleGo target (.ref I) v) Q' (fun _ _ => False) s')
    (F : Fr g env.locals s.heap m₀) (N : News g env.locals s.heap news) (h0 : J 0 m₀ news)
    (turn : ∀ i v m₁ news₁ h tk oI, i < n → P i v → J i m₁ news₁ → C oI → AllNe I news₁ → Fr g env.locals h m₁ → News g env.locals h (news₁ ++ [(I, oI)]) →
      wpAny (model prog w) A (assign target env v) (fun _ s₂ => wpAny (model prog w) A (execs body env) (Post g env.locals (J (i + 1)) I oI s (fun f s₃ => R (.ok f) s₃)) (fun _ _ => False) s₂) (fun _ _ => False) { s with heap := h, toks := tk })
    (done : ∀ m₁ news₁ h tk, J n m₁ news₁ → Fr g env.locals h m₁ → News g env.locals h news₁ → R (.ok .next) { s with heap := h, toks := tk }) :
    codeAny (model prog w) A (.forLoop target (.ref I) body [] env) R s := by
  have hLw : env.locals ∉ [I] := fun h => hLf (W.sub _ h)
  have hLI : env.locals ≠ I := fun e => hLw (e ▸ .head _)
  have hIf : I ∈ fp := W.sub _ (.head _)
  refine codeAny_forLoop_any
    (fun k s' => ∃ h' tk m' news' i, s' = { s with heap := h', toks := tk } ∧ W0 i h' ∧ Fr g env.locals h' m' ∧ News g env.locals h' news' ∧ AllNe I news' ∧ J i m' news' ∧ i ≤ n ∧ k = n + 1 - i) ?_ (n + 1)
    ⟨s.heap, s.toks, m₀, news, 0, rfl, hst, F, N, hnw, h0, Nat.zero_le _, rfl⟩
  rintro k s' ⟨h', tk, m', news', i, rfl, hst', F', N', hnw', hJ, hi, rfl⟩
  have next : ∀ h₁ : Heap, (∀ b o, b ∉ [I] → h'.get? b = some o → h₁.get? b = some o) → Fr g env.locals h₁ m' ∧ News g env.locals h₁ news' := fun h₁ hk₁ =>
    ⟨⟨F'.ns.at' fun o e => hk₁ _ o hLw e, fun b o e => hk₁ b o (fun q => by rw [List.mem_singleton.mp q, hI] at e; cases e) (F'.keep b o e), F'.above⟩, fun p hp => ⟨hk₁ _ _ (fun q => allNe_mem hnw' p hp (List.mem_singleton.mp q)) (N' p hp).1, (N' p hp).2⟩⟩
  by_cases hlt : i < n
  · refine W.item i _ _ _ hlt hst' fun v h₁ tk₁ hP hst₁ hk₁ => ?_
    obtain ⟨F₁, N₁⟩ := next h₁ hk₁
    obtain ⟨oI, hoI, hc⟩ := hC _ _ hst₁
    have N₂ : News g env.locals h₁ (news' ++ [(I, oI)]) := fun p hp => by
      rcases List.mem_append.mp hp with hp | hp
      · exact N₁ p hp
      · rw [List.mem_singleton.mp hp]; exact ⟨hoI, Ne.symm hLI, hI⟩
    refine wpAny_mono (hgo (i + 1) ⟨h₁, s.gens, s.drawn, tk₁, s.os⟩ v (fun _ s₂ => s₂ = ⟨h₁, s.gens, s.drawn, tk₁, s.os⟩) hst₁ rfl) (fun _ s₂ e => ?_) fun _ _ e => e.elim
    subst e
    refine wpAny_mono (turn i v m' news' h₁ tk₁ oI hlt hP hJ hc hnw' F₁ N₂) (fun _ s₂ h₂ => wpAny_mono h₂ (fun f s₃ h₃ => ?_) fun _ _ e => e.elim) fun _ _ e => e.elim
    have fin : End g env.locals (J (i + 1)) I oI s s₃ → ∃ m, m < n + 1 - i ∧ ∃ h' tk m' news' i, s₃ = { s with heap := h', toks := tk } ∧ W0 i h' ∧ Fr g env.locals h' m' ∧ News g env.locals h' news' ∧ AllNe I news' ∧ J i m' news' ∧ i ≤ n ∧ m = n + 1 - i := by
      rintro ⟨h₄, tk₄, m₄, news₄, rfl, F₄, N₄, hn₄, hJ₄⟩
      refine ⟨n + 1 - (i + 1), by omega, h₄, tk₄, m₄, news₄, i + 1, rfl, ?_, F₄, fun p hp => N₄ p (List.mem_append_left _ hp), hn₄, hJ₄, hlt, rfl⟩
      refine W.frame _ _ _ hst₁ fun b hb o e => ?_
      rcases hfp b hb with rfl | hn
      · have := (N₄ (b, oI) (List.mem_append_right _ (.head _))).1
        rw [hoI] at e; cases e; exact this
      · cases hq : g.get? b with
        | none => exact absurd hq hn
        | some o₀ =>
          have := F₁.keep b o₀ hq; rw [e] at this; cases this
          exact F₄.keep b _ hq
    cases f with
    | ret v => exact h₃
    | brk => exact h₃
    | next => exact fin h₃
    | cont => exact fin h₃
  · have hin : i = n := by omega
    subst hin
    refine W.done _ _ _ hst' fun h₁ tk₁ hk₁ => wpAny_execs_nil ?_
    obtain ⟨F₁, N₁⟩ := next h₁ hk₁
    exact done m' news' h₁ tk₁ hJ F₁ N₁

theorem map_st {m₁ m₀ : Str → Option Value} {stored : List Str} (hm : ∀ y, stored.contains y = false → m₁ y = m₀ y) : m₁ = fun y => if stored.contains y then m₁ y else m₀ y := by
  funext y
  cases h2 : stored.contains y with
  | true => simp
  | false => simp only [Bool.false_eq_true, if_false]; exact hm y h2

theorem goOwn {I : Addr} {v : Value} {s' : Shared} {o : Obj} {n : String} {vs : Array Value} {Q' : Unit → Shared → Prop} (e : s'.heap.get? I = some o) (c : o.cls = .type n) (d : o.data = .fields vs)
    (hn : ["enumerate", "zip", "dict_itemiterator", "dict_reverseitemiterator", "odict_iterator", "itertools.zip_longest", "itertools.pairwise"].contains n = false) (hq : Q' () s') : wpAny (model prog w) A (letOwnedTupleGo target (.ref I) v) Q' E s' := by
  unfold letOwnedTupleGo
  split
  · split
    · rename_i r a q
      simp only [Prod.mk.injEq, Value.ref.injEq] at q
      obtain ⟨rfl, _⟩ := q
      refine wpAny_bind (wpAny_load e ?_)
      rw [c, d]
      simp only
      rw [if_neg (by rw [hn]; simp)]
      exact wpAny_pure hq
    · exact wpAny_pure hq
  · split
    · rename_i r a q
      simp only [Prod.mk.injEq, Value.ref.injEq] at q
      obtain ⟨rfl, _⟩ := q
      refine wpAny_bind (wpAny_load e ?_)
      rw [c, d]
      simp only
      rw [if_neg (by rw [hn]; simp)]
      exact wpAny_pure hq
    · exact wpAny_pure hq
  · exact wpAny_pure hq
noncomputable def ForT (prog : Program) (w : World) (A : Around) (g : Heap) (env : Env) (target : PySem.Expr) (body : List Stmt) (Q : Flow → Shared → Prop) (xv : Value) (s₁ : Shared) : Prop :=
  ∃ (Tp : Nat) (vs : List Value) (k : Nat) (news : List (Addr × Obj)) (m₀ : Str → Option Value) (stored : List Str) (J : Nat → (Str → Option Value) → List (Addr × Obj) → Prop),
      xv = .ref Tp ∧ A.handled = none ∧ g.get? Tp = some (tupOf vs k) ∧ Fr g env.locals s₁.heap m₀ ∧ News g env.locals s₁.heap news ∧ J 0 m₀ news ∧
      (∀ s₂ : Shared, (∃ h, s₂ = { s₁ with heap := h }) → ∀ i v (u : Str → Option Value) news₁ h tk (I : Nat) oI, vs[i]? = some v → J i u news₁ → oI.cls = .type "tuple_iterator" → AllNe I news₁ → Fr g env.locals h (fun y => if stored.contains y then u y else m₀ y) → News g env.locals h (news₁ ++ [(I, oI)]) →
        wpAny (model prog w) A (assign target env v) (fun _ s₃ => wpAny (model prog w) A (execs body env) (Post g env.locals (fun m' nx => J (i + 1) m' nx ∧ ∀ y, stored.contains y = false → m' y = m₀ y) I oI s₂ Q) (fun _ _ => False) s₃) (fun _ _ => False) { s₂ with heap := h, toks := tk }) ∧
      (∀ (u : Str → Option Value) news₁ h tk, J vs.length u news₁ → Fr g env.locals h (fun y => if stored.contains y then u y else m₀ y) → News g env.locals h news₁ → Q .next { s₁ with heap := h, toks := tk })
theorem ForT.mk {s₁ : Shared} {Tp : Nat} {vs : List Value} {k : Nat} {news : List (Addr × Obj)} {m₀ : Str → Option Value} (stored : List Str) (J : Nat → (Str → Option Value) → List (Addr × Obj) → Prop) (hh : A.handled = none) (hg : g.get? Tp = some (tupOf vs k)) (F : Fr g env.locals s₁.heap m₀) (N : News g env.locals s₁.heap news) (h0 : J 0 m₀ news)
    (turn : ∀ i v (u : Str → Option Value) news₁ h tk (I : Nat) oI, vs[i]? = some v → J i u news₁ → oI.cls = .type "tuple_iterator" → AllNe I news₁ → Fr g env.locals h (fun y => if stored.contains y then u y else m₀ y) → News g env.locals h (news₁ ++ [(I, oI)]) →
        wpAny (model prog w) A (assign target env v) (fun _ s₃ => wpAny (model prog w) A (execs body env) (Post g env.locals (fun m' nx => J (i + 1) m' nx ∧ ∀ y, stored.contains y = false → m' y = m₀ y) I oI s₁ Q) (fun _ _ => False) s₃) (fun _ _ => False) { s₁ with heap := h, toks := tk })
    (done : ∀ (u : Str → Option Value) news₁ h tk, J vs.length u news₁ → Fr g env.locals h (fun y => if stored.contains y then u y else m₀ y) → News g env.locals h news₁ → Q .next { s₁ with heap := h, toks := tk }) : ForT prog w A g env target body Q (.ref Tp) s₁ :=
  ⟨Tp, vs, k, news, m₀, stored, J, rfl, hh, hg, F, N, h0, fun s₂ e i v u n1 h tk I oI a b c d f n => by obtain ⟨hx, rfl⟩ := e; exact turn i v u n1 h tk I oI a b c d f n, done⟩
/-- for target in a tuple that stands in the base -/
theorem forT_tup {pos : Pos} {iter : PySem.Expr} {m : Str → Option Value} (_F : Fr g env.locals s.heap m)
    (h : wpAny (model prog w) A (eval iter env) (ForT prog w A g env target body Q) (fun _ _ => False) s)
    (hs : ∀ x, foldedSetIterable iter env x = pure x) : wpAny (model prog w) A (exec (.For target iter body [] pos) env) Q (fun _ _ => False) s := by
  refine wpAny_For (wpAny_mono h (fun xv s₁ h₁ => ?_) fun _ _ e => e) hs
  obtain ⟨Tp, vs, k, news, m₀, stored, J, rfl, hh, hg, F, N, h0, turn, done⟩ := h₁
  have ht : s₁.heap.IsTuple Tp vs.toArray := ⟨_, F.keep _ _ hg, rfl, _, rfl⟩
  have hlt : Tp < g.objs.size := Heap.lt_size hg
  have hne : Tp ≠ s₁.heap.objs.size := Nat.ne_of_lt (Nat.lt_trans (Nat.lt_of_lt_of_le hlt F.above) F.ns.lt)
  refine wpAny_pyIter_tuple ht ?_
  have W := Walks.tuple (prog := prog) (w := w) hh s₁.heap.objs.size Tp hne vs.toArray
  have hlen : vs.toArray.size = vs.length := by simp
  rw [hlen] at W
  refine codeAny_mono (loopT_one (R := fun r s' => match r with | .ok f => Q f s' | .error _ => False) (C := fun o => o.cls = .type "tuple_iterator") (fun i m nx => J i m nx ∧ ∀ y, stored.contains y = false → m y = m₀ y) W ?_ (next_is_new F) (fun b hb => ?_) (allNe_of_mem fun p hp => Nat.ne_of_lt (Heap.lt_size (N p hp).1))
    ⟨⟨_, Heap.get?_push_size _ rfl, rfl, rfl⟩, ht.push _⟩ (fun i h st => by obtain ⟨o, e, c, _⟩ := st.1; exact ⟨o, e, c⟩) (fun i s' v Q' st hq => ?_) (F.push _) (fun p hp => ⟨Heap.get?_push_of_some _ (N p hp).1, (N p hp).2⟩) ⟨h0, fun _ _ => rfl⟩ ?_ ?_) (fun r s' x => by cases r with | ok f => exact x | error e => exact x.elim)
  · intro hm
    rcases List.mem_cons.mp hm with e | hm
    · exact absurd F.ns.lt (e ▸ Nat.lt_irrefl _)
    · exact absurd (Nat.lt_of_lt_of_le hlt F.above) ((List.mem_singleton.mp hm) ▸ Nat.lt_irrefl _)
  · rcases List.mem_cons.mp hb with e | hb
    · exact .inl e
    · exact .inr (by rw [List.mem_singleton.mp hb, hg]; simp)
  · obtain ⟨o, e, c, d⟩ := st.1
    exact goOwn e c d (by simp) hq
  · rintro i v m₁ news₁ h tk oI hi hP ⟨hJ, hm⟩ hc hne F₁ N₁
    rw [map_st hm] at F₁
    exact turn _ ⟨_, rfl⟩ i v m₁ news₁ h tk _ oI (by simpa using hP) hJ hc hne F₁ N₁
  · rintro m₁ news₁ h tk ⟨hJ, hm⟩ F₁ N₁
    rw [map_st hm] at F₁
    exact done m₁ news₁ h tk hJ F₁ N₁
end

theorem comp_inv {prog : Program} {w : World} {A : Around} {h₀ : Heap} {L : Addr} {m : Str → Option Value} {env : Env} {elt : PySem.Expr} {x : Str} {scope : Scope} {cl : List (Str × Addr)} {s : Shared} {S : List (Addr × Obj) → Prop} {P : Nat → Value → Prop} {Fin : List Value → List (Addr × Obj) → Prop}
    (n : Nat) (J : Nat → List Value → List (Addr × Obj) → Prop)
    (turn : ∀ i ys news, i < n → J i ys news → ∀ v (I : Nat) oI (C : Nat) oC (D : Nat) m₂ h tk (E' : Value → Shared → Prop), P i v → LCg.NsObj oC m₂ → m₂ x = some v → Fr h₀ L h m → News h₀ L h ((I, oI) :: (C, oC) :: (D, LCg.lst ys) :: news) → LCg.Off3 I C D news → (I ≠ C ∧ I ≠ D ∧ C ≠ D) →
      wpAny (model prog w) A (eval elt (compEnvC scope cl C env)) (LCg.CompEnd h₀ L m { s with heap := h, toks := tk } I oI C oC D (LCg.lst ys) S (fun y news' => J (i + 1) (ys ++ [y]) news')) E' { s with heap := h, toks := tk })
    (fin : ∀ ys news, J n ys news → Fin ys news) : ∀ k i ys news, k + i = n → J i ys news → LCg.CompRest prog w A h₀ L m env elt x scope cl s S P Fin k i ys news := by
  intro k
  induction k with
  | zero => intro i ys news e hJ; rw [Nat.zero_add] at e; subst e; exact LCg.CompRest.zero (fin _ _ hJ)
  | succ k ih =>
    intro i ys news e hJ
    refine LCg.CompRest.succ fun v I oI C oC D m₂ h tk E' hP hn hm F N o ne => ?_
    refine wpAny_mono (turn i ys news (by omega) hJ v I oI C oC D m₂ h tk E' hP hn hm F N o ne) (fun y s₂ z => ?_) fun _ _ e => e
    obtain ⟨h', tk', news', e1, e2, e3, e4, e5, e6⟩ := z
    exact ⟨h', tk', news', e1, e2, e3, e4, e5, ih (i + 1) _ _ (by omega) e6⟩
section
variable {prog : Program} {w : World} {A : Around} {E : Value → Shared → Prop} {s : Shared} {env : Env} {g : Heap} {L : Addr} {m : Str → Option Value}
theorem comp_invH {elt : PySem.Expr} {x : Str} {scope : Scope} {cl : List (Str × Addr)} {S : List (Addr × Obj) → Prop} {P : Nat → Value → Prop} {Fin : List Value → List (Addr × Obj) → Prop}
    (n : Nat) (J : Nat → List Value → List (Addr × Obj) → Prop)
    (turn : ∀ i ys news, i < n → J i ys news → ∀ v (I : Nat) oI (C : Nat) oC (D : Nat) m₂ h tk (E' : Value → Shared → Prop), P i v → LCg.NsObj oC m₂ → m₂ x = some v → Fr g L h m → News g L h ((I, oI) :: (C, oC) :: (D, LCg.lst ys) :: news) → LCg.Off3 I C D news → (I ≠ C ∧ I ≠ D ∧ C ≠ D) →
      wpAny (model prog w) A (eval elt (compEnvC scope cl C env)) (fun y s' => Hold (LCg.CompEnd g L m { s with heap := h, toks := tk } I oI C oC D (LCg.lst ys) S (fun y news' => J (i + 1) (ys ++ [y]) news') y s')) E' { s with heap := h, toks := tk })
    (fin : ∀ ys news, J n ys news → Fin ys news) (k i : Nat) (ys : List Value) (news : List (Addr × Obj)) (e : k + i = n) (hJ : J i ys news) : LCg.CompRest prog w A g L m env elt x scope cl s S P Fin k i ys news :=
  comp_inv n J (fun i ys news hi hJ v I oI C oC D m₂ h tk E' hP hn hm F N o ne => wpAny_mono (turn i ys news hi hJ v I oI C oC D m₂ h tk E' hP hn hm F N o ne) (fun _ _ z => z.out) fun _ _ e => e) fin k i ys news e hJ
noncomputable def TurnEnd (g : Heap) (L : Addr) (m : Str → Option Value) (l : List (Addr × Obj)) (P : Value → Prop) (s₁ : Shared) (y : Value) (s' : Shared) : Prop :=
  ∃ h' tk', s' = { s₁ with heap := h', toks := tk' } ∧ Fr g L h' m ∧ News g L h' l ∧ P y
/-- a comprehension whose turns leave the ledger as it was -/
theorem comp_same {elt : PySem.Expr} {x : Str} {scope : Scope} {cl : List (Str × Addr)} {S : List (Addr × Obj) → Prop} {P : Nat → Value → Prop} {Fin : List Value → List (Addr × Obj) → Prop} {news : List (Addr × Obj)}
    (n : Nat) (J : Nat → List Value → Prop) (hS : S news)
    (turn : ∀ i ys, i < n → J i ys → ∀ v (I : Nat) oI (C : Nat) oC (D : Nat) m₂ h tk (E' : Value → Shared → Prop), P i v → LCg.NsObj oC m₂ → m₂ x = some v → Fr g L h m → News g L h ((I, oI) :: (C, oC) :: (D, LCg.lst ys) :: news) → LCg.Off3 I C D news → (I ≠ C ∧ I ≠ D ∧ C ≠ D) →
      wpAny (model prog w) A (eval elt (compEnvC scope cl C env)) (fun y s' => Hold (TurnEnd g L m ((I, oI) :: (C, oC) :: (D, LCg.lst ys) :: news) (fun y => J (i + 1) (ys ++ [y])) { s with heap := h, toks := tk } y s')) E' { s with heap := h, toks := tk })
    (fin : ∀ ys, J n ys → Fin ys news) (h0 : J 0 []) : LCg.CompRest prog w A g L m env elt x scope cl s S P Fin n 0 [] news := by
  refine comp_invH n (fun i ys nx => nx = news ∧ J i ys) ?_ ?_ _ _ _ _ rfl ⟨rfl, h0⟩
  · rintro i ys nx hi ⟨rfl, hJ⟩ v I oI C oC D m₂ h tk E' hP hn hm F N off ne
    refine wpAny_mono (turn i ys hi hJ v I oI C oC D m₂ h tk E' hP hn hm F N off ne) (fun y s' z => ?_) fun _ _ e => e
    obtain ⟨h', tk', rfl, F', N', hJ'⟩ := z.out
    exact ⟨h', tk', _, rfl, F', N', off, hS, rfl, hJ'⟩
  · rintro ys nx ⟨rfl, hJ⟩
    exact fin ys hJ
theorem TurnEnd.mk {l l' : List (Addr × Obj)} {P : Value → Prop} {s₁ : Shared} {y : Value} {h' : Heap} {tk' : Nat} (F : Fr g L h' m) (N : News g L h' l') (k : AllIn l' l) (p : P y) : Hold (TurnEnd g L m l P s₁ y { s₁ with heap := h', toks := tk' }) := ⟨⟨_, _, rfl, F, k.news N, p⟩⟩
end
end
-- E12
section
variable {w : World} {A : Around} {s : Shared} {Q : Result → Shared → Prop} {H0 : Heap}
    {loose : List Str} {mean : ExcName → Option Value} {mg mb : Str → Option Value}
theorem Ints.snoc {vs : List Value} {ks : List Int} {k : Int} {t : Tok} (x : Ints vs ks) : Ints (vs ++ [.int k t]) (ks ++ [k]) := by
  induction x with
  | nil => exact .cons .nil
  | cons _ ih => exact .cons ih
noncomputable def PrimD (R : Addr) (o : Obj) : Prop := ∃ h1 h2 h3 h4 h5 h6 h7 t1 t2 t3 t4 t5 t6 t7 v1 v2 v3 v4 v5 v6,
  o = dictOf [⟨h1, .str (Str.ofString "name") t1, v1⟩, ⟨h2, .str (Str.ofString "at") t2, v2⟩, ⟨h3, .str (Str.ofString "output") t3, v3⟩, ⟨h4, .str (Str.ofString "inputs") t4, v4⟩, ⟨h5, .str (Str.ofString "sequential") t5, v5⟩, ⟨h6, .str (Str.ofString "init") t6, v6⟩, ⟨h7, .str (Str.ofString "rows") t7, .ref R⟩] 7

noncomputable abbrev Row := List Lt × Ot
noncomputable def RowAt (h : Heap) (v : Value) (r : Row) : Prop := ∃ (a T : Nat) (tk : Tok) (vs : List Value) (n m : Nat), v = .ref a ∧ h.get? a = some (tupOf [.ref T, .none, .str r.2.str tk] n) ∧ h.get? T = some (tupOf vs m) ∧ Strs vs r.1
inductive RowsAt (h : Heap) : List Value → List Row → Prop where
  | nil : RowsAt h [] []
  | cons {v : Value} {c : Row} {vs : List Value} {cs : List Row} : RowAt h v c → RowsAt h vs cs → RowsAt h (v :: vs) (c :: cs)
theorem RowAt.mono {h h' : Heap} {v : Value} {c : Row} (k : TupIn h h') (x : RowAt h v c) : RowAt h' v c := by
  obtain ⟨t, T, tk, vs, n, m, rfl, h1, h2, h3⟩ := x
  exact ⟨t, T, tk, vs, n, m, rfl, k _ _ h1 (isT _ _), k _ _ h2 (isT _ _), h3⟩
theorem RowsAt.mono {h h' : Heap} {vs : List Value} {cs : List Row} (k : TupIn h h') (x : RowsAt h vs cs) : RowsAt h' vs cs := by
  induction x with
  | nil => exact .nil
  | cons a _ ih => exact .cons (a.mono k) ih
theorem RowsAt.snoc {h : Heap} {vs : List Value} {cs : List Row} {v : Value} {c : Row} (x : RowsAt h vs cs) (y : RowAt h v c) : RowsAt h (vs ++ [v]) (cs ++ [c]) := by
  induction x with
  | nil => exact .cons y .nil
  | cons a _ ih => exact .cons a ih
theorem RowsAt.length {h : Heap} {vs : List Value} {cs : List Row} (x : RowsAt h vs cs) : vs.length = cs.length := by
  induction x with
  | nil => rfl
  | cons _ _ ih => simp [ih]
theorem RowsAt.get {h : Heap} {vs : List Value} {cs : List Row} (x : RowsAt h vs cs) : ∀ {i : Nat} {v : Value}, vs[i]? = some v → ∃ r, cs[i]? = some r ∧ RowAt h v r := by
  induction x with
  | nil => intro i v h; simp at h
  | cons y _ ih =>
    intro i v h
    cases i with
    | zero => simp at h; subst h; exact ⟨_, rfl, y⟩
    | succ i => simp at h; obtain ⟨r, e, z⟩ := ih h; exact ⟨r, (by simpa using e), z⟩

noncomputable def nextF : List Row → List Int → Int
  | [], _ => 3
  | r :: rs, cs => if matchB r.1 cs then r.2.code else nextF rs cs

theorem PrimD.elim {P : Prop} {h : Heap} {R Pd : Addr} {o : Obj} (x : PrimD R o) (e : h.get? Pd = some o) (k : ∀ h1 h2 h3 h4 h5 h6 h7 t1 t2 t3 t4 t5 t6 t7 v1 v2 v3 v4 v5 v6, h.get? Pd = some (dictOf [⟨h1, .str (Str.ofString "name") t1, v1⟩, ⟨h2, .str (Str.ofString "at") t2, v2⟩, ⟨h3, .str (Str.ofString "output") t3, v3⟩, ⟨h4, .str (Str.ofString "inputs") t4, v4⟩, ⟨h5, .str (Str.ofString "sequential") t5, v5⟩, ⟨h6, .str (Str.ofString "init") t6, v6⟩, ⟨h7, .str (Str.ofString "rows") t7, .ref R⟩] 7) → P) : P := by
  obtain ⟨a1, a2, a3, a4, a5, a6, a7, t1, t2, t3, t4, t5, t6, t7, v1, v2, v3, v4, v5, v6, rfl⟩ := x
  exact k _ _ _ _ _ _ _ _ _ _ _ _ _ _ _ _ _ _ _ _ e
theorem RowsAt.getE {P : Value → Prop} {h : Heap} {vs : List Value} {cs : List Row} {i : Nat} (x : RowsAt h vs cs)
    (k : ∀ ls o (ra rT : Nat) rtk (rvs : List Value) rn rm, cs[i]? = some (ls, o) → h.get? ra = some (tupOf [.ref rT, .none, .str (Ot.str o) rtk] rn) → h.get? rT = some (tupOf rvs rm) → Strs rvs ls → P (.ref ra)) : ∀ v, vs[i]? = some v → P v := by
  intro v hv
  obtain ⟨⟨ls, o⟩, hr, ra, rT, rtk, rvs, rn, rm, rfl, hra, hrT, hst⟩ := x.get hv
  exact k ls o ra rT rtk rvs rn rm hr hra hrT hst
theorem ints_tk {ks : List Int} {ys : List Value} {j : Nat} {k : Int} {t : Tok} (h : Ints ys (ks.take j)) (e : ks[j]? = some k) : Ints (ys ++ [.int k t]) (ks.take (j + 1)) := by
  rw [List.take_add_one, e]
  exact h.snoc
theorem nextStep {rows : List Row} {cs : List Int} {i : Nat} {ls : List Lt} {o : Ot} (h : rows[i]? = some (ls, o)) : nextF (rows.drop i) cs = if matchB ls cs then o.code else nextF (rows.drop (i + 1)) cs := by
  obtain ⟨p1, q1⟩ := List.getElem?_eq_some_iff.mp h
  rw [List.drop_eq_getElem_cons p1, q1]; rfl
local macro_rules | `(tactic| k_lt $x:ident) => `(tactic| skip)
set_option maxHeartbeats 8000000 in
theorem next_ (X : (pre.heap_1_1 w.params).In H0) (T : Top pre.view_1_2 loose mean mg mb H0) (S : H0.StaysIn s.heap) (hh : A.handled = none) (hroom : A.depth + 3 < recursionLimit)
   {P Pd R Cl nr nc : Nat} {rs ws : List Value} {rows : List Row} {cs : List Int} {oP : Obj} (hP : s.heap.get? P = some (instObj 38 Pd)) (hD : s.heap.get? Pd = some oP) (hD' : PrimD R oP) (hR : s.heap.get? R = some (tupOf rs nr)) (hRs : RowsAt s.heap rs rows)
   (hC : s.heap.get? Cl = some (listOf ws.toArray nc)) (iw : Ints ws cs) (hcs : ∀ c ∈ cs, c ≠ 2) (hle : cs.length ≤ 100) (hrow : ∀ r ∈ rows, r.1.length = cs.length) (n1 : H0.get? P = none) (n2 : H0.get? Pd = none) (n3 : H0.get? Cl = none) (e1 : P ≠ Pd) (e2 : P ≠ Cl) (e3 : Pd ≠ Cl)
   (ret : ∀ h' tk' t, Grow [] s.heap h' → Q (.ok (.ret (.int (nextF rows cs) t))) {s with heap := h', toks := tk'}) :
   codeAny (model PySem.Challenge.rw_on0108_01.row.prog w) A (.call (.ref 82) ⟨[.ref P, .ref Cl], []⟩) Q s := Wr.out (by exact Wr.of _ : Wr (by
  refine hD'.elim hD ?_
  clear hD
  intro a1 a2 a3 a4 a5 a6 a7 t1 t2 t3 t4 t5 t6 t7 v1 v2 v3 v4 v5 v6 hD
  revert X
  k_fill
  intro X
  have led : Led H0 s.heap _ := .cons hP n1 (.cons hD n2 (.cons hC n3 .nil))
  refine' enter X T S led ?k6 ?k7 (by omega) ?k9 ?kB ?_ ?c2 ?c3 ?c4 ?c5
  walk_at "mine is"
  intro g L h1 Xg Tg Sg hg1 hg2 hg3 hL F' N'
  have TG := tupG led hg1 (by walk_at "mine notup")
  try dsimp only
  try k_fold
  k_steps
  rename Fr _ _ _ _ => F2
  rename News _ _ _ _ => N2
  have hwl := iw.length
  refine ⟨LCg.CompSrc.ledger (by exact hh) F2 N2 (by k_mem) (by rw [List.size_toArray, sizeLine_eq]; omega) fun gg => ?_⟩
  refine comp_same ws.toArray.size (fun i ys => Ints ys (cs.take i)) (.inr ⟨_, by k_mem, rfl, _, rfl⟩) ?_ ?_ .nil
  · intro i ys hi hys v I oI C oC D m₂ h3 tk3 E' hv hoC hm F3 N3 off ne
    revert v
    refine iw.atE ?_
    intro c t hc hm
    have hc2 : c ≠ 2 := hcs c (List.mem_of_getElem? hc)
    try k_fold
    k_steps
    rename Fr _ _ _ _ => F4
    rename News _ _ _ _ => N4
    refine callH ?_
    refine plain_ (s := ⟨_, _, _, _, _⟩) Xg Tg F4.keep (by exact hh) (by show _ + 1 + _ < _; omega) hc2 ?_
    intro h5 tk5 G5
    refine step0 G5 F4 N4 ?_
    intro F5 N5
    refine RetTo.mk ?_
    exact TurnEnd.mk F5 N5 (by walk_at "mine allin") (ints_tk hys hc)
  · intro ys hys D h3 tk3 F3 N3 off
    rw [List.size_toArray, hwl, List.take_length] at hys
    try k_fold
    k_steps
    rename Fr _ _ _ _ => F4
    rename News _ _ _ _ => N4
    refine ⟨forT_tup F4 ?_ (by intro _; rfl)⟩
    k_steps
    rename Fr _ _ _ _ => F5
    rename News _ _ _ _ => N5
    have hgR := TG _ _ hR (isT _ _)
    have hgRs := hRs.mono TG
    obtain ⟨J, hJe⟩ : ∃ J : Nat → (Str → Option Value) → List (Addr × Obj) → Prop, J = fun i _ nx => FixJ [(D, LCg.lst ys), (P, instObj 38 Pd), (Pd, dictOf [⟨a1, .str (Str.ofString "name") t1, v1⟩, ⟨a2, .str (Str.ofString "at") t2, v2⟩, ⟨a3, .str (Str.ofString "output") t3, v3⟩, ⟨a4, .str (Str.ofString "inputs") t4, v4⟩, ⟨a5, .str (Str.ofString "sequential") t5, v5⟩, ⟨a6, .str (Str.ofString "init") t6, v6⟩, ⟨a7, .str (Str.ofString "rows") t7, .ref R⟩] 7), (Cl, listOf ws.toArray nc)] (nextF rows cs = nextF (rows.drop i) cs) nx := ⟨_, rfl⟩
    refine ForT.mk [Str.ofString "ins", Str.ofString "state", Str.ofString "out"] J (by exact hh) hgR F5 N5 (JH hJe (.mk rfl)) ?_ ?_
    · intro i v u nx h6 tk6 I oI hv hj hoI hne F6 N6
      obtain ⟨hJ⟩ := JE hJe hj
      revert v
      refine hgRs.getE ?_
      intro rls ro ra rT rtk rvs rn rm hr hra hrT hst
      have hJ' := hJ.trans (nextStep hr)
      have itup : IsTup h6 ra #[.ref rT, .none, .str ro.str rtk] := ⟨_, F6.keep _ _ hra, rfl, _, rfl⟩
      refine unpackN_ F6 N6 itup (by exact hh) (by rfl) (by rfl) ?_
      intro h7 F7 N7
      try k_fold
      k_steps
      rename Fr _ _ _ _ => F8
      rename News _ _ _ _ => N8
      try dsimp only
      refine callH ?_
      refine match_ (s := ⟨_, _, _, _, _⟩) Xg Tg F8.keep (by exact hh) (by show _ + 1 + _ < _; omega) (F8.keep _ _ hrT) (newsAt N8 (.head _)) hst hys (hrow _ (List.mem_of_getElem? hr)) (Nat.le_trans (Nat.le_of_eq (hrow _ (List.mem_of_getElem? hr))) hle) (newsOwn N8 (.head _)) ?_
      intro h9 tk9 G9
      refine step0 G9 F8 N8 ?_
      intro F9 N9
      refine RetTo.mk ?_
      k_steps
      all_goals (rename Fr _ _ _ _ => Fa; rename News _ _ _ _ => Na)
      · rename matchB rls cs = true => q
        try dsimp only
        refine callH ?_
        refine out_ (s := ⟨_, _, _, _, _⟩) Xg Tg Fa.keep (by exact hh) (by show _ + 1 + _ < _; omega) ?_
        intro hb tkb tb Gb
        refine RetTo.mk ?_
        rw [hJ', if_pos q] at ret
        exact ret _ _ _ ((grow_of (mods := []) led hg1 hL Fa Na (by walk_at "mine kept")).trans' Gb)
      · rename matchB rls cs = false => q
        exact Post.next (news' := [(D, LCg.lst ys), (P, instObj 38 Pd), (Pd, _), (Cl, listOf ws.toArray nc)]) Fa (AllIn.news (r := [(D, LCg.lst ys), (P, instObj 38 Pd), (Pd, _), (Cl, listOf ws.toArray nc), (I, oI)]) (by walk_at "mine allin") Na) (by exact hne) ⟨JH hJe (.mk (by rw [hJ', if_neg (by rw [q]; exact Bool.false_ne_true)])), by walk_at "mine offs"⟩
    · intro u nx h6 tk6 hj F6 N6
      obtain ⟨hJ⟩ := JE hJe hj
      try k_fold
      k_steps
      have e : nextF rows cs = 3 := by rw [hJ, hRs.length, List.drop_length]; rfl
      rw [e] at ret
      exact ret _ _ _ (grow_of led hg1 hL F6 N6 (by walk_at "mine kept"))))
end
-- I1
section
variable {w : World} {A : Around} {s : Shared} {Q : Result → Shared → Prop} {H0 : Heap}
    {loose : List Str} {mean : ExcName → Option Value} {mg mb : Str → Option Value}
local macro_rules | `(tactic| k_lt $x:ident) => `(tactic| skip)
local macro_rules | `(tactic| walk_at "mine isC") => `(tactic| (
  (case k6 => k_is); (case k7 => k_is); (case k9 => first | exact BindsTo.of_eq rfl | exact binds_K (Frag.In.keeps (by assumption) (by assumption)) rfl (by k_is) rfl rfl rfl); (case kB => exact rfl); (case kC => decide); (case c2 => exact rfl); (case c3 => exact rfl); (case c4 => exact rfl)))
theorem range_small (n : Nat) (h : n ≤ 1000000) : Builtin.Range.small 0 (n : Int) 1 = true := small_one (by omega) (by omega) (by omega) (by omega)
theorem range_size (n : Nat) : Builtin.Range.rangeSize 0 (n : Int) 1 = ((n : Nat) : Int) := by
  unfold Builtin.Range.rangeSize
  simp
  omega
noncomputable abbrev netsL (n : Nat) : List Int := (List.range n).map fun i => ((2 + i : Nat) : Int)
theorem netsL_succ (n : Nat) : netsL (n + 1) = netsL n ++ [((2 + n : Nat) : Int)] := by
  unfold netsL
  rw [List.range_succ, List.map_append]; rfl
inductive NJ (c N Nd I U C : Nat) (oc : Obj) (i : Nat) (ys : List Value) : List (Addr × Obj) → Prop where
  | mk (p1 p2 p3 p4 p5 : Int) (q1 q2 q3 q4 q5 tx tc : Tok) (x : Str) (h : Ints ys (netsL i)) : NJ c N Nd I U C oc i ys [(c, oc), (N, instObj 162 Nd), (Nd, dictOf [⟨p1, .str (Str.ofString "name") q1, .str x tx⟩, ⟨p2, .str (Str.ofString "count") q2, .int (((2 + i : Nat) : Int)) tc⟩, ⟨p3, .str (Str.ofString "inputs") q3, .ref I⟩, ⟨p4, .str (Str.ofString "outputs") q4, .ref U⟩, ⟨p5, .str (Str.ofString "cells") q5, .ref C⟩] 5)]
set_option maxHeartbeats 8000000 in
theorem new_nets_ (X : (pre.heap_1_1 w.params).In H0) (T : Top pre.view_1_2 loose mean mg mb H0) (S : H0.StaysIn s.heap) (hh : A.handled = none) (hroom : A.depth + 1 < recursionLimit)
   {N Nd I U C n : Nat} {tn : Tok} {p1 p2 p3 p4 p5 : Int} {q1 q2 q3 q4 q5 tx tc : Tok} {x : Str} (hN : s.heap.get? N = some (instObj 162 Nd)) (hD : s.heap.get? Nd = some (dictOf [⟨p1, .str (Str.ofString "name") q1, .str x tx⟩, ⟨p2, .str (Str.ofString "count") q2, .int (2) tc⟩, ⟨p3, .str (Str.ofString "inputs") q3, .ref I⟩, ⟨p4, .str (Str.ofString "outputs") q4, .ref U⟩, ⟨p5, .str (Str.ofString "cells") q5, .ref C⟩] 5))
   (n1 : H0.get? N = none) (n2 : H0.get? Nd = none) (ne : Nd < N) (hn : n ≤ 100)
   (ret : ∀ h' tk' D vs k p1' p2' p3' p4' p5' q1' q2' q3' q4' q5' x' tx' tc', Grow [Nd] s.heap h' → h'.get? Nd = some (dictOf [⟨p1', .str (Str.ofString "name") q1', .str x' tx'⟩, ⟨p2', .str (Str.ofString "count") q2', .int (((2 + n : Nat) : Int)) tc'⟩, ⟨p3', .str (Str.ofString "inputs") q3', .ref I⟩, ⟨p4', .str (Str.ofString "outputs") q4', .ref U⟩, ⟨p5', .str (Str.ofString "cells") q5', .ref C⟩] 5) → h'.get? D = some (listOf vs.toArray k) → s.heap.get? D = none → Ints vs (netsL n) → Q (.ok (.ret (.ref D))) {s with heap := h', toks := tk'}) :
   codeAny (model PySem.Challenge.rw_on0108_01.row.prog w) A (.call (.ref 115) ⟨[.ref N, .int (n : Int) tn], []⟩) Q s := Wr.out (by exact Wr.of _ : Wr (by
  revert X
  k_fill
  intro X
  have led : Led H0 s.heap _ := .cons hN n1 (.cons hD n2 .nil)
  refine' enterC X T S led ?k6 ?k7 (by omega) ?k9 ?kB ?kC ?_ ?c2 ?c3 ?c4
  walk_at "mine isC"
  intro g L h1 tk cells Xg Tg Sg hg1 hg2 hg3 hLs F' N' hcl
  refine oneCell hcl.one N' ?_
  clear N' hcl
  intro oc hoc N'
  replace hoc : oc.data = .cell (some (.ref N)) := hoc
  have lts := led.ltp hLs
  try dsimp only [List.cons_append, List.nil_append] at N' ⊢
  try k_fold
  k_steps
  rename Fr _ _ _ _ => F2
  rename News _ _ _ _ => N2
  refine ⟨LCg.CompSrc.range (by exact hh) F2 N2 (by assumption) (range_small n (by omega)) (range_size n) (by rw [sizeLine_eq]; omega) fun gg => ?_⟩
  refine comp_inv n (NJ (L + 1) N Nd I U C oc) ?_ ?_ _ _ _ _ rfl (.mk _ _ _ _ _ _ _ _ _ _ _ _ _ .nil)
  · rintro i ys nx hi ⟨p1, p2, p3, p4, p5, q1, q2, q3, q4, q5, tx, tc, x, hys⟩ v J1 oJ1 C1 oC1 D1 m₂ h9 tk9 E' ⟨tv, rfl⟩ hoC hm F9 N9 off ne'
    have o3 := off3_mem off (p := (Nd, _)) (by k_mem)
    have oa : J1 ∉ [Nd] := nin_of o3.1
    have ob : C1 ∉ [Nd] := nin_of o3.2.1
    have od : D1 ∉ [Nd] := nin_of o3.2.2
    try k_fold
    k_steps
    rename Fr _ _ _ _ => F10
    rename News _ _ _ _ => N10
    try dsimp only
    refine callH ?_
    refine new_net_ (s := ⟨_, _, _, _, _⟩) Xg Tg F10.keep (by show A.depth + 1 < _; omega) (newsAt N10 (by k_mem)) (newsAt N10 (by k_mem)) (newsOwn N10 (by k_mem)) (newsOwn N10 (by k_mem)) ne (by omega) (by omega) ?_
    intro h5 tk5 t5 p1' p2' p3' p4' p5' q1' q2' q3' q4' q5' x' tx' tc' G5 e5
    refine' stepN ?u ?hm G5 F10 N10 ?_
    case u => walk_at "mine upds"
    case hm => walk_at "mine upds"
    intro F5 N5
    refine RetTo.mk ?_
    refine LCg.CompEnd.intro F5 N5 _ (fun p hp => hp) off trivial (.mk _ _ _ _ _ _ _ _ _ _ _ _ _ ?_)
    rw [netsL_succ]
    exact hys.snoc
  · rintro ys nx ⟨p1, p2, p3, p4, p5, q1, q2, q3, q4, q5, tx, tc, x, hys⟩ D h9 tk9 F9 N9 off
    have hD1 : D ∉ [N, Nd] := ninQ2 (Ne.symm (off1_mem off (p := (N, _)) (by k_mem))) (Ne.symm (off1_mem off (p := (Nd, _)) (by k_mem)))
    clear off
    try k_fold
    k_steps
    rename Fr _ _ _ _ => F10
    rename News _ _ _ _ => N10
    exact ret _ _ _ _ _ _ _ _ _ _ _ _ _ _ _ _ _ _ (grow_of (mods := [Nd]) led hg1 hLs F10 N10 (by walk_at "mine kept")) (newsAt N10 (by k_mem)) (newsAt N10 (by k_mem)) (fresh_of hg1 N10 (.head _) hD1) hys))
end
-- Plain
set_option linter.all false

noncomputable def gate (kind : Str) (xs : List Int) : Int :=
  if kind = sNot then 1 - xs.getD 0 0 else if kind = sMux then xs.getD (1 + xs.getD 0 0).toNat 0 else if kind = sAnd then xs.getD 0 0 * xs.getD 1 0
  else if kind = sOr then max (xs.getD 0 0) (xs.getD 1 0) else (xs.getD 0 0 + xs.getD 1 0) % 2
noncomputable def at0 (vals : List Int) (i : Int) : Int := vals.getD i.toNat 0
noncomputable def stepV (vals : List Int) (c : Cell) : List Int := vals ++ [gate c.kind (c.ins.map (at0 vals))]
noncomputable def runV (vals : List Int) (cs : List Cell) : List Int := cs.foldl stepV vals
noncomputable def valsOf (g : List Int) (cs : List Cell) : List Int := runV ([0, 1] ++ g) cs
noncomputable def NS.val (σ : NS) (g : List Int) (i : Int) : Int := at0 (valsOf g σ.cells) i
noncomputable def Bit (x : Int) : Prop := x = 0 ∨ x = 1
noncomputable def Bits (n : Nat) (g : List Int) : Prop := g.length = n ∧ ∀ x ∈ g, Bit x
noncomputable def WfK (kind : Str) (ins : List Int) : Prop := (kind = sNot ∧ ins.length = 1) ∨ (kind = sMux ∧ ins.length = 3) ∨ ((kind = sAnd ∨ kind = sOr ∨ kind = sXor) ∧ ins.length = 2)
noncomputable def keyOf (kind : Str) (ins : List Int) : List SI := .s kind :: ins.map .i
noncomputable def NS.ok (σ : NS) (i : Int) : Prop := 0 ≤ i ∧ i < σ.count

theorem kinds_ne : sNot ≠ sMux ∧ sNot ≠ sAnd ∧ sNot ≠ sOr ∧ sNot ≠ sXor ∧ sMux ≠ sAnd ∧ sMux ≠ sOr ∧ sMux ≠ sXor ∧ sAnd ≠ sOr ∧ sAnd ≠ sXor ∧ sOr ≠ sXor := by decide

theorem gate_not (x : Int) : gate sNot [x] = 1 - x := by unfold gate; rw [if_pos rfl]; rfl
theorem gate_mux (s a b : Int) (h : Bit s) : gate sMux [s, a, b] = if s = 0 then a else b := by
  unfold gate; rw [if_neg kinds_ne.1.symm, if_pos rfl]
  rcases h with rfl | rfl <;> rfl
theorem gate_and (a b : Int) : gate sAnd [a, b] = a * b := by
  unfold gate; rw [if_neg kinds_ne.2.1.symm, if_neg kinds_ne.2.2.2.2.1.symm, if_pos rfl]; rfl
theorem gate_or (a b : Int) : gate sOr [a, b] = max a b := by
  unfold gate; rw [if_neg kinds_ne.2.2.1.symm, if_neg kinds_ne.2.2.2.2.2.1.symm, if_neg kinds_ne.2.2.2.2.2.2.2.1.symm, if_pos rfl]; rfl
theorem gate_xor (a b : Int) : gate sXor [a, b] = (a + b) % 2 := by
  unfold gate; rw [if_neg kinds_ne.2.2.2.1.symm, if_neg kinds_ne.2.2.2.2.2.2.1.symm, if_neg kinds_ne.2.2.2.2.2.2.2.2.1.symm, if_neg kinds_ne.2.2.2.2.2.2.2.2.2.symm]; rfl

theorem bit_mul {a b : Int} (ha : Bit a) (hb : Bit b) : Bit (a * b) := by rcases ha with rfl | rfl <;> rcases hb with rfl | rfl <;> (unfold Bit; decide)
theorem bit_max {a b : Int} (ha : Bit a) (hb : Bit b) : Bit (max a b) := by rcases ha with rfl | rfl <;> rcases hb with rfl | rfl <;> (unfold Bit; decide)
theorem bit_xor {a b : Int} (ha : Bit a) (hb : Bit b) : Bit ((a + b) % 2) := by rcases ha with rfl | rfl <;> rcases hb with rfl | rfl <;> (unfold Bit; decide)
theorem bit_not {a : Int} (ha : Bit a) : Bit (1 - a) := by rcases ha with rfl | rfl <;> (unfold Bit; decide)

theorem gate_bit {kind : Str} {ins : List Int} (wf : WfK kind ins) {f : Int → Int} (hf : ∀ i ∈ ins, Bit (f i)) : Bit (gate kind (ins.map f)) := by
  rcases wf with ⟨rfl, h⟩ | ⟨rfl, h⟩ | ⟨hk, h⟩
  · obtain ⟨a, rfl⟩ := List.length_eq_one_iff.mp h
    rw [List.map_cons, List.map_nil, gate_not]; exact bit_not (hf a (by simp))
  · match ins, h with
    | [a, b, c], _ =>
      rw [List.map_cons, List.map_cons, List.map_cons, List.map_nil, gate_mux _ _ _ (hf a (by simp))]
      split
      · exact hf b (by simp)
      · exact hf c (by simp)
  · match ins, h with
    | [a, b], _ =>
      rw [List.map_cons, List.map_cons, List.map_nil]
      rcases hk with rfl | rfl | rfl
      · rw [gate_and]; exact bit_mul (hf a (by simp)) (hf b (by simp))
      · rw [gate_or]; exact bit_max (hf a (by simp)) (hf b (by simp))
      · rw [gate_xor]; exact bit_xor (hf a (by simp)) (hf b (by simp))

theorem stepV_len (vals c) : (stepV vals c).length = vals.length + 1 := by simp [stepV]
theorem runV_len (cs : List Cell) : ∀ vals, (runV vals cs).length = vals.length + cs.length := by
  induction cs with
  | nil => intro vals; rfl
  | cons c cs ih => intro vals; show (runV (stepV vals c) cs).length = _; rw [ih, stepV_len, List.length_cons]; omega
theorem runV_snoc (vals cs c) : runV vals (cs ++ [c]) = stepV (runV vals cs) c := by simp [runV, List.foldl_append]
theorem valsOf_len (g cs) : (valsOf g cs).length = 2 + g.length + cs.length := by unfold valsOf; rw [runV_len]; simp; omega
theorem at0_append {vals : List Int} {x : Int} {i : Int} (h : i < vals.length) (h0 : 0 ≤ i) : at0 (vals ++ [x]) i = at0 vals i := by
  unfold at0
  rw [List.getD_eq_getElem?_getD, List.getD_eq_getElem?_getD, List.getElem?_append_left (by omega)]
theorem at0_last {vals : List Int} {x : Int} {i : Int} (h : i = vals.length) : at0 (vals ++ [x]) i = x := by
  unfold at0
  subst h
  simp

structure Inv (n : Nat) (σ : NS) : Prop where
  cnt : σ.count = 2 + n + σ.cells.length
  wf : ∀ (j : Nat) c, σ.cells[j]? = some c → c.out = 2 + n + j ∧ WfK c.kind c.ins ∧ ∀ i ∈ c.ins, 0 ≤ i ∧ i < c.out
  opp : ∀ a b, σ.opp a = some b → σ.ok a ∧ σ.ok b ∧ ∀ g, Bits n g → σ.val g b = 1 - σ.val g a
  made : ∀ kind ins r, σ.made (keyOf kind ins) = some r → σ.ok r ∧ (∀ i ∈ ins, σ.ok i) ∧ ∀ g, Bits n g → σ.val g r = gate kind (ins.map (σ.val g))

structure Ext (n : Nat) (σ σ' : NS) : Prop where
  cnt : σ.count ≤ σ'.count
  val : ∀ g i, Bits n g → σ.ok i → σ'.val g i = σ.val g i
theorem Ext.refl (n σ) : Ext n σ σ := ⟨Int.le_refl _, fun _ _ _ _ => rfl⟩
theorem Ext.ok {n σ σ'} (e : Ext n σ σ') {i : Int} (h : σ.ok i) : σ'.ok i := ⟨h.1, Int.lt_of_lt_of_le h.2 e.cnt⟩
theorem Ext.trans {n σ σ' σ''} (a : Ext n σ σ') (b : Ext n σ' σ'') : Ext n σ σ'' :=
  ⟨Int.le_trans a.cnt b.cnt, fun g i hg hi => (b.val g i hg (a.ok hi)).trans (a.val g i hg hi)⟩

theorem valsOf_bits {n : Nat} {g : List Int} (hg : Bits n g) (cs : List Cell) (wf : ∀ c ∈ cs, WfK c.kind c.ins) : ∀ x ∈ valsOf g cs, Bit x := by
  have key : ∀ (cs : List Cell), (∀ c ∈ cs, WfK c.kind c.ins) → ∀ vals : List Int, (∀ x ∈ vals, Bit x) → ∀ x ∈ runV vals cs, Bit x := by
    intro cs
    induction cs with
    | nil => intro _ vals hv; exact hv
    | cons c cs ih =>
      intro wf vals hv
      refine ih (fun c hc => wf c (.tail _ hc)) (stepV vals c) fun x hx => ?_
      rcases List.mem_append.mp hx with hx | hx
      · exact hv x hx
      · rw [List.mem_singleton.mp hx]
        refine gate_bit (wf c (.head _)) fun i _ => ?_
        unfold at0
        rw [List.getD_eq_getElem?_getD]
        cases h : vals[i.toNat]? with
        | none => exact .inl rfl
        | some y => exact hv y (List.mem_of_getElem? h)
  refine key cs wf _ fun x hx => ?_
  simp only [List.cons_append, List.nil_append, List.mem_cons] at hx
  rcases hx with rfl | rfl | hx
  · exact .inl rfl
  · exact .inr rfl
  · exact hg.2 x hx

section
variable {n : Nat} {σ : NS}
theorem Inv.bit (h : Inv n σ) {g : List Int} (hg : Bits n g) (i : Int) : Bit (σ.val g i) := by
  have := valsOf_bits hg σ.cells fun c hc => by obtain ⟨j, hj⟩ := List.mem_iff_getElem?.mp hc; exact (h.wf j c hj).2.1
  unfold NS.val at0
  rw [List.getD_eq_getElem?_getD]
  cases e : (valsOf g σ.cells)[i.toNat]? with
  | none => exact .inl rfl
  | some y => exact this y (List.mem_of_getElem? e)
theorem runV_pre (cs : List Cell) : ∀ (vals : List Int) (i : Nat), i < vals.length → (runV vals cs)[i]? = vals[i]? := by
  induction cs with
  | nil => intro vals i _; rfl
  | cons c cs ih =>
    intro vals i h
    show (runV (stepV vals c) cs)[i]? = _
    rw [ih _ _ (by rw [stepV_len]; omega)]
    unfold stepV
    rw [List.getElem?_append_left h]
theorem val_zero (g : List Int) : σ.val g 0 = 0 := by
  unfold NS.val at0 valsOf
  rw [List.getD_eq_getElem?_getD, runV_pre _ _ _ (by simp)]; rfl
theorem val_one (g : List Int) : σ.val g 1 = 1 := by
  unfold NS.val at0 valsOf
  rw [List.getD_eq_getElem?_getD, runV_pre _ _ _ (by simp)]; rfl
theorem val_in (g : List Int) (j : Nat) (h : j < g.length) : σ.val g (2 + j) = g.getD j 0 := by
  unfold NS.val at0 valsOf
  rw [List.getD_eq_getElem?_getD, List.getD_eq_getElem?_getD, runV_pre _ _ _ (by simp; omega)]
  have : (2 + (j : Int)).toNat = j + 1 + 1 := by omega
  rw [this]; rfl
theorem Inv.len (h : Inv n σ) {g : List Int} (hg : Bits n g) : ((valsOf g σ.cells).length : Int) = σ.count := by
  rw [valsOf_len, hg.1, h.cnt]; omega

theorem add_val_old (h : Inv n σ) {g : List Int} (hg : Bits n g) (kind ins) {i : Int} (hi : σ.ok i) : (σ.add kind ins).val g i = σ.val g i := by
  unfold NS.val NS.add
  dsimp only
  unfold valsOf
  rw [runV_snoc]
  exact at0_append (by show i < ((valsOf g σ.cells).length : Int); rw [h.len hg]; exact hi.2) hi.1
theorem add_val_new (h : Inv n σ) {g : List Int} (hg : Bits n g) (kind ins) : (σ.add kind ins).val g σ.count = gate kind (ins.map (σ.val g)) := by
  unfold NS.val NS.add
  dsimp only
  unfold valsOf
  rw [runV_snoc]
  exact at0_last (h.len hg).symm
theorem add_ext (h : Inv n σ) (kind ins) : Ext n σ (σ.add kind ins) := ⟨by show σ.count ≤ σ.count + 1; omega, fun g i hg hi => add_val_old h hg kind ins hi⟩
theorem add_wf (h : Inv n σ) {kind ins} (wf : WfK kind ins) (hi : ∀ i ∈ ins, σ.ok i) : ∀ (j : Nat) c, (σ.add kind ins).cells[j]? = some c → c.out = 2 + n + j ∧ WfK c.kind c.ins ∧ ∀ i ∈ c.ins, 0 ≤ i ∧ i < c.out := by
  intro j c hc
  change (σ.cells ++ [⟨kind, σ.count, ins⟩])[j]? = some c at hc
  by_cases hj : j < σ.cells.length
  · rw [List.getElem?_append_left hj] at hc; exact h.wf j c hc
  · have hj' : j < σ.cells.length + 1 := by have := (List.getElem?_eq_some_iff.mp hc).1; simpa using this
    have : j = σ.cells.length := by omega
    subst this
    rw [List.getElem?_append_right (Nat.le_refl _), Nat.sub_self] at hc
    obtain rfl := Option.some.inj hc
    exact ⟨h.cnt, wf, hi⟩
theorem keyOf_inj {k k' : Str} {i i' : List Int} (h : keyOf k i = keyOf k' i') : k = k' ∧ i = i' := by
  unfold keyOf at h
  injection h with h1 h2
  refine ⟨SI.s.inj h1, ?_⟩
  exact List.map_inj_right (fun a b e => SI.i.inj e) |>.mp h2

noncomputable def Good (n : Nat) (σ : NS) (res : NS × Int) (f : List Int → Int) : Prop := Inv n res.1 ∧ Ext n σ res.1 ∧ res.1.ok res.2 ∧ ∀ g, Bits n g → res.1.val g res.2 = f g
theorem Good.here (h : Inv n σ) {r : Int} (hr : σ.ok r) {f : List Int → Int} (hf : ∀ g, Bits n g → σ.val g r = f g) : Good n σ (σ, r) f := ⟨h, .refl _ _, hr, hf⟩

theorem put_val (σ : NS) (key r g i) : (σ.put key r).val g i = σ.val g i := rfl
theorem opps_val (σ : NS) (a b g i) : (σ.opps a b).val g i = σ.val g i := rfl

theorem once_good (h : Inv n σ) {kind ins} (wf : WfK kind ins) (hi : ∀ i ∈ ins, σ.ok i) : Good n σ (σ.once (keyOf kind ins) kind ins) (fun g => gate kind (ins.map (σ.val g))) := by
  unfold NS.once
  split
  · rename_i r e
    obtain ⟨a, b, c⟩ := h.made _ _ _ e
    exact Good.here h a c
  · have ex := add_ext h kind ins
    have ok' : (σ.add kind ins).ok σ.count := ⟨by rw [h.cnt]; omega, by show σ.count < σ.count + 1; omega⟩
    have up : ∀ g, Bits n g → ∀ js : List Int, (∀ i ∈ js, σ.ok i) → js.map ((σ.add kind ins).val g) = js.map (σ.val g) := fun g hg js hj => List.map_congr_left fun i hi => ex.val g i hg (hj i hi)
    refine ⟨⟨?_, add_wf h wf hi, ?_, ?_⟩, ⟨ex.cnt, ex.val⟩, ok', fun g hg => add_val_new h hg kind ins⟩
    · show σ.count + 1 = 2 + n + ((σ.cells ++ [_]).length : Nat)
      rw [h.cnt, List.length_append, List.length_singleton]; omega
    · intro a b e
      obtain ⟨p, q, r⟩ := h.opp a b e
      exact ⟨ex.ok p, ex.ok q, fun g hg => by rw [put_val, put_val, ex.val g b hg q, ex.val g a hg p]; exact r g hg⟩
    · intro k' i' r e
      change (if keyOf k' i' = keyOf kind ins then some σ.count else σ.made (keyOf k' i')) = some r at e
      split at e
      · rename_i ek
        obtain ⟨rfl, rfl⟩ := keyOf_inj ek
        obtain rfl := Option.some.inj e
        refine ⟨ok', fun i hi' => ex.ok (hi i hi'), fun g hg => ?_⟩
        show (σ.add k' i').val g σ.count = gate k' (i'.map ((σ.add k' i').val g))
        rw [add_val_new h hg, up g hg _ hi]
      · obtain ⟨p, q, s⟩ := h.made _ _ _ e
        refine ⟨ex.ok p, fun i hi' => ex.ok (q i hi'), fun g hg => ?_⟩
        show (σ.add kind ins).val g r = gate k' (i'.map ((σ.add kind ins).val g))
        rw [ex.val g r hg p, up g hg _ q]; exact s g hg

theorem ok01 (h : Inv n σ) {a : Int} (ha : a = 0 ∨ a = 1) : σ.ok a := by
  have := h.cnt
  unfold NS.ok
  omega
theorem inv_good (h : Inv n σ) {a : Int} (ha : σ.ok a) : Good n σ (σ.inv a) (fun g => 1 - σ.val g a) := by
  unfold NS.inv
  split
  · rename_i h01
    refine Good.here h (ok01 h (by omega)) fun g hg => ?_
    rcases h01 with rfl | rfl
    · show σ.val g 1 = _; rw [val_one, val_zero]; rfl
    · show σ.val g 0 = _; rw [val_one, val_zero]; rfl
  · split
    · rename_i r e
      obtain ⟨p, q, s⟩ := h.opp a r e
      exact Good.here h q s
    · have ex := add_ext h sNot [a]
      have ok' : (σ.add sNot [a]).ok σ.count := ⟨by rw [h.cnt]; omega, by show σ.count < σ.count + 1; omega⟩
      have wf : WfK sNot [a] := .inl ⟨rfl, rfl⟩
      have hi : ∀ i ∈ [a], σ.ok i := fun i hi => by rw [List.mem_singleton.mp hi]; exact ha
      have new : ∀ g, Bits n g → (σ.add sNot [a]).val g σ.count = 1 - σ.val g a := fun g hg => by rw [add_val_new h hg]; exact gate_not _
      refine ⟨⟨?_, add_wf h wf hi, ?_, ?_⟩, ⟨ex.cnt, ex.val⟩, ok', new⟩
      · show σ.count + 1 = 2 + n + ((σ.cells ++ [_]).length : Nat)
        rw [h.cnt, List.length_append, List.length_singleton]; omega
      · intro x y e
        change (if x = σ.count then some a else if x = a then some σ.count else σ.opp x) = some y at e
        split at e
        · rename_i ex'
          subst ex'
          obtain rfl := Option.some.inj e
          refine ⟨ok', ex.ok ha, fun g hg => ?_⟩
          rw [opps_val, opps_val, new g hg, ex.val g a hg ha]; omega
        · split at e
          · rename_i ex'
            subst ex'
            obtain rfl := Option.some.inj e
            refine ⟨ex.ok ha, ok', fun g hg => ?_⟩
            rw [opps_val, opps_val, new g hg, ex.val g x hg ha]
          · obtain ⟨p, q, r⟩ := h.opp x y e
            exact ⟨ex.ok p, ex.ok q, fun g hg => by rw [opps_val, opps_val, ex.val g y hg q, ex.val g x hg p]; exact r g hg⟩
      · intro k' i' r e
        obtain ⟨p, q, s⟩ := h.made _ _ _ e
        refine ⟨ex.ok p, fun i hi' => ex.ok (q i hi'), fun g hg => ?_⟩
        show (σ.add sNot [a]).val g r = gate k' (i'.map ((σ.add sNot [a]).val g))
        rw [ex.val g r hg p, List.map_congr_left fun i hi => ex.val g i hg (q i hi)]; exact s g hg

theorem isOpp_val (h : Inv n σ) {a b : Int} (hb : 0 ≤ b) (o : σ.isOpp a b) : ∀ g, Bits n g → σ.val g b = 1 - σ.val g a := by
  unfold NS.isOpp NS.oppB at o
  have o' := beq_iff_eq.mp o
  cases e : σ.opp a with
  | none => rw [e] at o'; simp at o'; omega
  | some r => rw [e] at o'; simp at o'; subst o'; exact (h.opp a r e).2.2
end

-- Plain2
set_option linter.all false
section
variable {n : Nat} {σ : NS}

theorem Good.ext {n : Nat} {σ : NS} {res : NS × Int} {f g : List Int → Int} (h : Good n σ res f) (e : ∀ x, Bits n x → f x = g x) : Good n σ res g := ⟨h.1, h.2.1, h.2.2.1, fun x hx => (h.2.2.2 x hx).trans (e x hx)⟩
theorem Good.after {n : Nat} {σ σ' : NS} {res : NS × Int} {f : List Int → Int} (e : Ext n σ σ') (h : Good n σ' res f) : Good n σ res f := ⟨h.1, e.trans h.2.1, h.2.2.1, h.2.2.2⟩

theorem pair_good (h : Inv n σ) {kind : Str} (hk : kind = sAnd ∨ kind = sOr ∨ kind = sXor) {a b : Int} (ha : σ.ok a) (hb : σ.ok b) : Good n σ (σ.pair kind a b) (fun g => gate kind [σ.val g (min a b), σ.val g (max a b)]) := by
  have wf : WfK kind [min a b, max a b] := .inr (.inr ⟨hk, rfl⟩)
  refine once_good h wf fun i hi => ?_
  simp only [List.mem_cons, List.not_mem_nil, or_false] at hi
  unfold NS.ok at *
  rcases hi with rfl | rfl <;> omega
theorem minmax (a b : Int) (f : Int → Int) : (f (min a b) = f a ∧ f (max a b) = f b) ∨ (f (min a b) = f b ∧ f (max a b) = f a) := by
  by_cases h : a ≤ b
  · left; rw [Int.min_eq_left h, Int.max_eq_right h]; exact ⟨rfl, rfl⟩
  · right; rw [Int.min_eq_right (by omega), Int.max_eq_left (by omega)]; exact ⟨rfl, rfl⟩

theorem both_good (h : Inv n σ) {a b : Int} (ha : σ.ok a) (hb : σ.ok b) : Good n σ (σ.both a b) (fun g => σ.val g a * σ.val g b) := by
  unfold NS.both
  split
  · rename_i c
    refine Good.here h (ok01 h (.inl rfl)) fun g hg => ?_
    rw [val_zero]
    have b1 := h.bit hg a
    rcases c with rfl | rfl | c
    · rw [val_zero]; omega
    · rw [val_zero]; omega
    · rw [isOpp_val h hb.1 c g hg]; rcases b1 with e | e <;> rw [e] <;> rfl
  · split
    · rename_i c
      refine Good.here h hb fun g hg => ?_
      have b1 := h.bit hg b
      rcases c with rfl | rfl
      · rw [val_one]; omega
      · rcases b1 with e | e <;> rw [e] <;> rfl
    · split
      · rename_i c
        subst c
        refine Good.here h ha fun g hg => ?_
        rw [val_one]; omega
      · refine (pair_good h (.inl rfl) ha hb).ext fun g hg => ?_
        rw [gate_and]
        rcases minmax a b (σ.val g) with ⟨e1, e2⟩ | ⟨e1, e2⟩ <;> rw [e1, e2]
        exact Int.mul_comm _ _

theorem either_good (h : Inv n σ) {a b : Int} (ha : σ.ok a) (hb : σ.ok b) : Good n σ (σ.either a b) (fun g => max (σ.val g a) (σ.val g b)) := by
  unfold NS.either
  split
  · rename_i c
    refine Good.here h (ok01 h (.inr rfl)) fun g hg => ?_
    rw [val_one]
    have b1 := h.bit hg a
    have b2 := h.bit hg b
    unfold Bit at b1 b2
    rcases c with rfl | rfl | c
    · rw [val_one]; omega
    · rw [val_one]; omega
    · rw [isOpp_val h hb.1 c g hg]; omega
  · split
    · rename_i c
      refine Good.here h hb fun g hg => ?_
      have b1 := h.bit hg b
      unfold Bit at b1
      rcases c with rfl | rfl
      · rw [val_zero]; omega
      · omega
    · split
      · rename_i c
        subst c
        refine Good.here h ha fun g hg => ?_
        have b1 := h.bit hg a
        unfold Bit at b1
        rw [val_zero]; omega
      · refine (pair_good h (.inr (.inl rfl)) ha hb).ext fun g hg => ?_
        rw [gate_or]
        rcases minmax a b (σ.val g) with ⟨e1, e2⟩ | ⟨e1, e2⟩ <;> rw [e1, e2]
        exact Int.max_comm _ _

theorem differ_good (h : Inv n σ) {a b : Int} (ha : σ.ok a) (hb : σ.ok b) : Good n σ (σ.differ a b) (fun g => (σ.val g a + σ.val g b) % 2) := by
  unfold NS.differ
  split
  · rename_i c
    subst c
    refine Good.here h (ok01 h (.inl rfl)) fun g hg => ?_
    rw [val_zero]; omega
  · split
    · rename_i c
      refine Good.here h (ok01 h (.inr rfl)) fun g hg => ?_
      rw [val_one, isOpp_val h hb.1 c g hg]
      have b1 := h.bit hg a
      unfold Bit at b1
      omega
    · split
      · split
        · rename_i c
          subst c
          refine (inv_good h hb).ext fun g hg => ?_
          have b1 := h.bit hg b
          unfold Bit at b1
          rw [val_one]; omega
        · rename_i c1 c
          have : a = 0 := by omega
          subst this
          refine Good.here h hb fun g hg => ?_
          have b1 := h.bit hg b
          unfold Bit at b1
          rw [val_zero]; omega
      · split
        · split
          · rename_i c
            subst c
            refine (inv_good h ha).ext fun g hg => ?_
            have b1 := h.bit hg a
            unfold Bit at b1
            rw [val_one]; omega
          · rename_i c1 c
            have : b = 0 := by omega
            subst this
            refine Good.here h ha fun g hg => ?_
            have b1 := h.bit hg a
            unfold Bit at b1
            rw [val_zero]; omega
        · refine (pair_good h (.inr (.inr rfl)) ha hb).ext fun g hg => ?_
          rw [gate_xor]
          rcases minmax a b (σ.val g) with ⟨e1, e2⟩ | ⟨e1, e2⟩ <;> rw [e1, e2]
          rw [Int.add_comm]

theorem mux_good (h : Inv n σ) {s a b : Int} (hs : σ.ok s) (ha : σ.ok a) (hb : σ.ok b) : Good n σ (σ.mux s a b) (fun g => if σ.val g s = 0 then σ.val g a else σ.val g b) := by
  unfold NS.mux
  split
  · rename_i c
    refine Good.here h ha fun g hg => ?_
    rcases c with rfl | rfl
    · rw [val_zero, if_pos rfl]
    · split <;> rfl
  split
  · rename_i c
    subst c
    refine Good.here h hb fun g hg => ?_
    rw [val_one, if_neg (by decide)]
  split
  · rename_i c
    refine (both_good h hs hb).ext fun g hg => ?_
    rcases c with rfl | rfl
    · rw [val_zero]
      rcases h.bit hg s with e | e <;> rw [e]
      · rw [if_pos rfl]; omega
      · rw [if_neg (by decide)]; omega
    · rcases h.bit hg a with e | e <;> rw [e]
      · rw [if_pos rfl]; omega
      · rw [if_neg (by decide)]; omega
  split
  · rename_i c
    refine (either_good h hs ha).ext fun g hg => ?_
    have b2 := h.bit hg a
    unfold Bit at b2
    rcases c with rfl | rfl
    · rw [val_one]
      rcases h.bit hg s with e | e <;> rw [e]
      · rw [if_pos rfl]; omega
      · rw [if_neg (by decide)]; omega
    · rcases h.bit hg b with e | e <;> rw [e]
      · rw [if_pos rfl]; omega
      · rw [if_neg (by decide)]; omega
  have gi := inv_good h hs
  split
  · rename_i c
    refine Good.after gi.2.1 ((either_good gi.1 gi.2.2.1 (gi.2.1.ok hb)).ext fun g hg => ?_)
    rw [gi.2.2.2 g hg, gi.2.1.val g b hg hb]
    dsimp only
    have b2 := h.bit hg b
    unfold Bit at b2
    rcases c with rfl | c
    · rw [val_one]
      rcases h.bit hg s with e | e <;> rw [e]
      · rw [if_pos rfl]; omega
      · rw [if_neg (by decide)]; omega
    · have e1 := isOpp_val h hs.1 c g hg
      rcases h.bit hg s with e | e <;> rw [e] at e1 ⊢
      · rw [if_pos rfl]; omega
      · rw [if_neg (by decide)]; omega
  split
  · rename_i c
    refine Good.after gi.2.1 ((both_good gi.1 gi.2.2.1 (gi.2.1.ok ha)).ext fun g hg => ?_)
    rw [gi.2.2.2 g hg, gi.2.1.val g a hg ha]
    dsimp only
    have b2 := h.bit hg a
    unfold Bit at b2
    rcases c with rfl | c
    · rw [val_zero]
      rcases h.bit hg s with e | e <;> rw [e]
      · rw [if_pos rfl]; omega
      · rw [if_neg (by decide)]; omega
    · have e1 := isOpp_val h hs.1 c g hg
      rcases h.bit hg s with e | e <;> rw [e] at e1 ⊢
      · rw [if_pos rfl]; omega
      · rw [if_neg (by decide)]; omega
  split
  · rename_i c
    refine (differ_good h hs ha).ext fun g hg => ?_
    have e1 := isOpp_val h hb.1 c g hg
    have b2 := h.bit hg a
    unfold Bit at b2
    rcases h.bit hg s with e | e <;> rw [e]
    · rw [if_pos rfl]; omega
    · rw [if_neg (by decide)]; omega
  · have wf : WfK sMux [s, a, b] := .inr (.inl ⟨rfl, rfl⟩)
    refine (once_good h wf fun i hi => ?_).ext fun g hg => ?_
    · simp only [List.mem_cons, List.not_mem_nil, or_false] at hi
      rcases hi with rfl | rfl | rfl <;> assumption
    · exact gate_mux _ _ _ (h.bit hg s)
end

-- Plain3
set_option linter.all false

noncomputable def tableF (rows : List Row) (ins : List Int) : Nat → NS → List Int → NS × Int
  | 0, σ, cs => (σ, if nextF rows cs = 1 then 1 else 0)
  | d + 1, σ, cs => (tableF rows ins d (tableF rows ins d σ (cs ++ [0])).1 (cs ++ [1])).1.mux (ins.getD cs.length 0) (tableF rows ins d σ (cs ++ [0])).2 (tableF rows ins d (tableF rows ins d σ (cs ++ [0])).1 (cs ++ [1])).2

theorem table_len (rows ins) : ∀ d σ cs, (tableF rows ins d σ cs).1.cells.length + 2 ≤ σ.cells.length + 2 * 2 ^ d := by
  intro d
  induction d with
  | zero => intro σ cs; show σ.cells.length + 2 ≤ _; omega
  | succ d ih =>
    intro σ cs
    have h1 := ih σ (cs ++ [0])
    have h2 := ih (tableF rows ins d σ (cs ++ [0])).1 (cs ++ [1])
    have h3 := NS.mux_len (tableF rows ins d (tableF rows ins d σ (cs ++ [0])).1 (cs ++ [1])).1 (ins.getD cs.length 0) (tableF rows ins d σ (cs ++ [0])).2 (tableF rows ins d (tableF rows ins d σ (cs ++ [0])).1 (cs ++ [1])).2
    have : 2 ^ (d + 1) = 2 * 2 ^ d := by rw [Nat.pow_succ, Nat.mul_comm]
    show (NS.mux _ _ _ _).1.cells.length + 2 ≤ _
    omega

theorem table_good {n : Nat} (rows ins) : ∀ d (σ : NS) cs, Inv n σ → (∀ i ∈ ins, σ.ok i) → cs.length + d = ins.length →
    Good n σ (tableF rows ins d σ cs) (fun g => if nextF rows (cs ++ (ins.drop cs.length).map (σ.val g)) = 1 then 1 else 0) := by
  intro d
  induction d with
  | zero =>
    intro σ cs h hi hl
    have hd : ins.drop cs.length = [] := List.drop_eq_nil_of_le (by omega)
    have h01 : ∀ b : Prop, [Decidable b] → (if b then (1 : Int) else 0) = 0 ∨ (if b then (1 : Int) else 0) = 1 := fun b _ => by split <;> simp
    refine Good.here h (ok01 h (h01 _)) fun g hg => ?_
    rw [hd, List.map_nil, List.append_nil]
    split
    · exact val_one g
    · exact val_zero g
  | succ d ih =>
    intro σ cs h hi hl
    have hlt : cs.length < ins.length := by omega
    have g1 := ih σ (cs ++ [0]) h hi (by simp; omega)
    have g2 := ih (tableF rows ins d σ (cs ++ [0])).1 (cs ++ [1]) g1.1 (fun i hi' => g1.2.1.ok (hi i hi')) (by simp; omega)
    have ex := g1.2.1.trans g2.2.1
    have hmem : ins.getD cs.length 0 ∈ ins := by rw [List.getD_eq_getElem?_getD, List.getElem?_eq_getElem hlt]; exact List.getElem_mem _
    have hdrop : ins.drop cs.length = ins.getD cs.length 0 :: ins.drop (cs.length + 1) := by
      rw [List.drop_eq_getElem_cons hlt, List.getD_eq_getElem?_getD, List.getElem?_eq_getElem hlt]; rfl
    have hs := hi _ hmem
    refine Good.after ex ((mux_good g2.1 (ex.ok hs) (g2.2.1.ok g1.2.2.1) g2.2.2.1).ext fun g hg => ?_)
    rw [ex.val g _ hg hs, g2.2.1.val g _ hg g1.2.2.1, g1.2.2.2 g hg, g2.2.2.2 g hg]
    dsimp only
    have e2 : (ins.drop (cs ++ [1]).length).map ((tableF rows ins d σ (cs ++ [0])).1.val g) = (ins.drop (cs.length + 1)).map (σ.val g) := by
      rw [List.length_append, List.length_singleton]
      exact List.map_congr_left fun i hi' => g1.2.1.val g i hg (hi i (List.mem_of_mem_drop hi'))
    rw [e2, hdrop, List.map_cons]
    rw [List.length_append, List.length_singleton, List.append_assoc, List.append_assoc]
    rcases h.bit hg (ins.getD cs.length 0) with e | e <;> rw [e]
    · rw [if_pos rfl]; rfl
    · rw [if_neg (by decide)]; rfl

noncomputable def Lt.holds : Lt → Int → Bool
  | .z, c => c == 0
  | .o, c => c == 1
  | .x, _ => false
  | .b, _ => true
  | .q, _ => true
noncomputable def holdsB : List Lt → List Int → Bool
  | l :: ls, c :: cs => l.holds c && holdsB ls cs
  | _, _ => true
noncomputable def toldF : List Row → List Int → Int
  | [], _ => 0
  | r :: rs, cs => if holdsB r.1 cs then (if r.2 = .o then 1 else 0) else toldF rs cs
theorem holds_eq {cs : List Int} (h : ∀ c ∈ cs, Bit c) (ls : List Lt) : holdsB ls cs = matchB ls cs := by
  induction ls generalizing cs with
  | nil => cases cs <;> rfl
  | cons l ls ih =>
    cases cs with
    | nil => rfl
    | cons c cs =>
      show (l.holds c && holdsB ls cs) = (l.codes.any (· == c) && matchB ls cs)
      rw [ih fun c hc => h c (.tail _ hc)]
      congr 1
      rcases h c (.head _) with rfl | rfl <;> cases l <;> rfl
theorem told_eq {cs : List Int} (h : ∀ c ∈ cs, Bit c) (rows : List Row) : toldF rows cs = if nextF rows cs = 1 then 1 else 0 := by
  induction rows with
  | nil => rfl
  | cons r rs ih =>
    show (if holdsB r.1 cs then _ else toldF rs cs) = if (if matchB r.1 cs then r.2.code else nextF rs cs) = 1 then 1 else 0
    rw [holds_eq h]
    split
    · cases r.2 <;> rfl
    · exact ih

-- E13
section
variable {w : World} {A : Around} {s : Shared} {Q : Result → Shared → Prop} {H0 : Heap}
    {loose : List Str} {mean : ExcName → Option Value} {mg mb : Str → Option Value}
inductive Cut (cl : List (Addr × Obj)) : List (Addr × Obj) → List (Addr × Obj) → Prop where
  | nil : Cut cl cl []
  | cons {x : Addr × Obj} {r r' : List (Addr × Obj)} (k : Cut cl r r') : Cut cl (x :: r) (x :: r')
theorem Cut.news {g h : Heap} {L : Addr} {cl l r : List (Addr × Obj)} (k : Cut cl l r) (N : News g L h l) : News g L h r := by
  induction k with
  | nil => exact News.nil
  | cons _ ih =>
    intro q hq
    rcases List.mem_cons.mp hq with rfl | hq
    · exact N _ (.head _)
    · exact ih (fun q hq => N q (.tail _ hq)) q hq
noncomputable def Lift (g h : Heap) (cl : List (Addr × Obj)) : Prop := ∀ h', TupIn g h' → (∀ p ∈ cl, h'.get? p.1 = some p.2) → TupIn h h'
theorem stepC {mods : List Nat} {g h h' : Heap} {L : Addr} {m : Str → Option Value} {l0 l l' cl : List (Addr × Obj)} {P : Prop} (c : Cut cl l0 l) (u : Upds mods h' l l') (hm : Has l mods) (G : Grow mods h h') (F : Fr g L h m) (N : News g L h l0)
    (k : ∀ cl', Fr g L h' m → News g L h' (l' ++ cl') → Lift g h' cl' → P) : P := by
  refine stepN u hm G F (c.news N) fun F' N' => ?_
  obtain ⟨cl', _, N2, q⟩ := cloud F' N'
  exact k cl' F' N2 q
theorem Lift.tup {g h h' : Heap} {L : Addr} {m : Str → Option Value} {cl l : List (Addr × Obj)} (q : Lift g h cl) (F : Fr g L h' m) (N : News g L h' l) (s : ∀ p ∈ cl, p ∈ l) : TupIn h h' :=
  q h' (fun b o e _ => F.keep b o e) fun p hp => (N p (s p hp)).1
noncomputable def NeA (x y : Nat) : Prop := x ≠ y
local macro_rules | `(tactic| walk_at "mine updk") => `(tactic| first
  | exact Upds.nil
  | exact Has.nil
  | (refine' Upds.chg ?n ?x; (case n => assumption); (case x => walk_at "mine updk"))
  | (refine' Upds.keep ?n ?x; (case n => first | assumption | exact ltNin4 (by with_reducible assumption) (by k_mem) (by k_mem) (by k_mem) (by k_mem) | (simp <;> omega)); (case x => walk_at "mine updk"))
  | (refine' Has.cons ?n ?x; (case n => k_mem); (case x => walk_at "mine updk")))
local macro_rules | `(tactic| walk_at "mine cut") => `(tactic| repeat' (first | refine' Cut.cons ?_ | exact Cut.nil))
local macro_rules | `(tactic| walk_at "mine in") => `(tactic| (intro p hp; repeat (first | assumption | refine List.Mem.tail _ ?_)))
theorem add_N {prog : Program} {A : Around} {E : Value → Shared → Prop} {g : Heap} {L : Addr} {m : Str → Option Value} {news : List (Addr × Obj)} {l b n1 n2 : Nat} {vs ws : List Value} {Q : Value → Shared → Prop} (F : Fr g L s.heap m) (N : News g L s.heap news) (hl : (l, listOf vs.toArray n1) ∈ news) (hb : (b, listOf ws.toArray n2) ∈ news)
    (hsz : vs.length + ws.length ≤ 1000000) (h : ∀ (D : Nat) h', Fr g L h' m → News g L h' ((D, listOf (vs ++ ws).toArray 0) :: news) → (∀ p ∈ news, p.1 < D) → Q (.ref D) { s with heap := h' }) :
    wpAny (model prog w) A (binaryOp .Add (.ref l) (.ref b)) Q E s :=
  add_lists F N (N.isList hl) (N.isList hb) (fun h' F' N' => h _ h' F' N' (fun p hp => Heap.lt_size (N p hp).1)) (by rw [sizeLine_eq]; omega)
local macro_rules | `(tactic| walk_at "binaryOp Add ref ref") => `(tactic| ((with_reducible show wpAny _ _ (binaryOp Operator.Add (Value.ref _) (Value.ref _)) _ _ _); k_dflt (refine' add_N ?F ?N ?a ?b ?z ?_; (case F => k_asm); (case N => k_asm); (case a => k_mem); (case b => k_mem); (case z => (simp only [List.length_cons, List.length_nil]; omega)); intro D' h' F' N' l'; (try k_sweep))))
theorem St.of {g h h' : Heap} {a : GA} {σ : NS} {L : Addr} {l : List (Addr × Obj)} {oN oD oC oG oJ oM oO : Obj} (Z : St w H0 a h σ) (t : TupIn h h') (N : News g L h' l) (e1 : h.get? a.N = some oN) (m1 : (a.N, oN) ∈ l) (e2 : h.get? a.Nd = some oD) (m2 : (a.Nd, oD) ∈ l) (e3 : h.get? a.C = some oC) (m3 : (a.C, oC) ∈ l)
    (e4 : h.get? a.G = some oG) (m4 : (a.G, oG) ∈ l) (e5 : h.get? a.Gd = some oJ) (m5 : (a.Gd, oJ) ∈ l) (e6 : h.get? a.M = some oM) (m6 : (a.M, oM) ∈ l) (e7 : h.get? a.O = some oO) (m7 : (a.O, oO) ∈ l) : St w g a h' σ := by
  refine (Z.lift (h' := h') t fun b o hb e => ?_).own' ⟨newsOwn N m2, newsOwn N m1, newsOwn N m3, newsOwn N m5, newsOwn N m4, newsOwn N m6, newsOwn N m7⟩
  simp only [List.mem_cons, List.not_mem_nil, or_false] at hb
  rcases hb with rfl | rfl | rfl | rfl | rfl | rfl | rfl
  · rw [e1] at e; cases e; exact newsAt N m1
  · rw [e2] at e; cases e; exact newsAt N m2
  · rw [e3] at e; cases e; exact newsAt N m3
  · rw [e4] at e; cases e; exact newsAt N m4
  · rw [e5] at e; cases e; exact newsAt N m5
  · rw [e6] at e; cases e; exact newsAt N m6
  · rw [e7] at e; cases e; exact newsAt N m7

theorem PrimD.ntup {R : Addr} {o : Obj} (h : PrimD R o) : o.cls ≠ .type "tuple" := by
  obtain ⟨_, _, _, _, _, _, _, _, _, _, _, _, _, _, _, _, _, _, _, _, rfl⟩ := h
  simp
local macro_rules | `(tactic| k_lt $x:ident) => `(tactic| skip)
set_option maxHeartbeats 8000000 in
theorem table_ {n : Nat} {rows : List Row} {ins : List Int} {is : List Value} {P Pd R IL nr nI : Nat} {rs : List Value} {oP : Obj} {a : GA} (hil : ins.length ≤ 10) (ii : Ints is ins) (hrow : ∀ r ∈ rows, r.1.length = ins.length) (hD' : PrimD R oP) (e1 : NeA P Pd)
    (b1 : P ∉ [a.Nd, a.C, a.M, a.O]) (b2 : Pd ∉ [a.Nd, a.C, a.M, a.O]) (b3 : IL ∉ [a.Nd, a.C, a.M, a.O]) : ∀ (d : Nat) {A : Around} {s : Shared} {Q : Result → Shared → Prop} {H0 : Heap} {loose : List Str} {mean : ExcName → Option Value} {mg mb : Str → Option Value} {σ : NS} {cs : List Int} {ws : List Value} {Cl nc : Nat}
    (X : (pre.heap_1_1 w.params).In H0) (T : Top pre.view_1_2 loose mean mg mb H0) (S : H0.StaysIn s.heap) (hh : A.handled = none) (hroom : A.depth + (d + 5) < recursionLimit) (hu : A.units + (3 * d + 20) < cLine)
    (Z : St w H0 a s.heap σ) (J : Inv n σ) (hok : ∀ i ∈ ins, σ.ok i) (hlen : σ.cells.length + 2 * 2 ^ d ≤ 9000)
    (hP : s.heap.get? P = some (instObj 38 Pd)) (hD : s.heap.get? Pd = some oP) (hR : s.heap.get? R = some (tupOf rs nr)) (hRs : RowsAt s.heap rs rows) (hI : s.heap.get? IL = some (listOf is.toArray nI))
    (hC : s.heap.get? Cl = some (listOf ws.toArray nc)) (iw : Ints ws cs) (hcs : ∀ c ∈ cs, c ≠ 2) (hl : cs.length + d = ins.length)
    (n1 : H0.get? P = none) (n2 : H0.get? Pd = none) (n3 : H0.get? IL = none) (n4 : H0.get? Cl = none) (e2 : NeA P Cl) (e3 : NeA Pd Cl) (b4 : Cl ∉ [a.Nd, a.C, a.M, a.O])
    (ret : ∀ h' tk' t, Grow [a.Nd, a.C, a.M, a.O] s.heap h' → St w H0 a h' (tableF rows ins d σ cs).1 → Q (.ok (.ret (.int (tableF rows ins d σ cs).2 t))) {s with heap := h', toks := tk'}),
    codeAny (model PySem.Challenge.rw_on0108_01.row.prog w) A (.call (.ref 89) ⟨[.ref a.G, .ref P, .ref IL, .ref Cl], []⟩) Q s := Wr.out (by exact Wr.of _ : Wr (by
  have hwi := ii.length
  intro d
  induction d with
  | zero =>
    intro A s Q H0 loose mean mg mb σ cs ws Cl nc X T S hh hroom hu Z J hok hlen hP hD hR hRs hI hC iw hcs hl n1 n2 n3 n4 e2 e3 b4 ret
    have hwl := iw.length
    revert X
    k_fill
    intro X
    have led : Led H0 s.heap _ := .cons hP n1 (.cons hD n2 (.cons hI n3 (.cons hC n4 .nil)))
    refine' enter X T S led ?k6 ?k7 (by omega) ?k9 ?kB ?_ ?c2 ?c3 ?c4 ?c5
    walk_at "mine is"
    intro g L h1 Xg Tg Sg hg1 hg2 hg3 hL F' N'
    have ndP := hD'.ntup
    have TG := tupG led hg1 (.cons (by simp) (.cons ndP (.cons (by simp) (.cons (by simp) .nil))))
    try dsimp only
    try k_fold
    k_steps
    all_goals (rename Fr _ _ _ _ => F2; rename News _ _ _ _ => N2)
    all_goals try (exfalso; omega)
    refine callH ?_
    refine next_ (s := ⟨_, _, _, _, _⟩) Xg Tg F2.keep (by exact hh) (by show _ + 1 + _ < _; omega) (newsAt N2 (by k_mem)) (newsAt N2 (by k_mem)) hD' (F2.keep _ _ (TG _ _ hR (isT _ _))) (hRs.mono (TG.trans (tupFr F2))) (newsAt N2 (by k_mem)) iw hcs (by omega) (fun r hr => by rw [hrow r hr]; omega)
      (newsOwn N2 (by k_mem)) (newsOwn N2 (by k_mem)) (newsOwn N2 (by k_mem)) e1 e2 e3 ?_
    intro h5 tk5 t5 G5
    refine' stepN ?u ?hm G5 F2 N2 ?_
    case u => walk_at "mine updk"
    case hm => walk_at "mine updk"
    intro F5 N5
    refine RetTo.mk ?_
    k_steps
    all_goals (have G := grow_of (mods := []) led hg1 hL F5 N5 (by walk_at "mine kept"))
    · rename nextF rows cs = 1 => q
      have e : tableF rows ins 0 σ cs = (σ, 1) := by show (σ, if _ then _ else _) = _; rw [if_pos q]
      rw [e] at ret
      exact ret _ _ _ G.any (Z.same G)
    · have e : tableF rows ins 0 σ cs = (σ, 0) := by show (σ, if _ then _ else _) = _; rw [if_neg (by assumption)]
      rw [e] at ret
      exact ret _ _ _ G.any (Z.same G)
  | succ d ih =>
    intro A s Q H0 loose mean mg mb σ cs ws Cl nc X T S hh hroom hu Z J hok hlen hP hD hR hRs hI hC iw hcs hl n1 n2 n3 n4 e2 e3 b4 ret
    have hwl := iw.length
    have hlt : cs.length < ins.length := by omega
    have p2 : 2 ^ (d + 1) = 2 * 2 ^ d := by rw [Nat.pow_succ, Nat.mul_comm]
    have g1 := table_good rows ins d σ (cs ++ [0]) J hok (by simp; omega)
    have g2 := table_good rows ins d (tableF rows ins d σ (cs ++ [0])).1 (cs ++ [1]) g1.1 (fun i hi' => g1.2.1.ok (hok i hi')) (by simp; omega)
    have ln1 := table_len rows ins d σ (cs ++ [0])
    have ln2 := table_len rows ins d (tableF rows ins d σ (cs ++ [0])).1 (cs ++ [1])
    have hmem : ins.getD cs.length 0 ∈ ins := by rw [List.getD_eq_getElem?_getD, List.getElem?_eq_getElem hlt]; exact List.getElem_mem _
    have hs := (g1.2.1.trans g2.2.1).ok (hok _ hmem)
    have hlo := g2.2.1.ok g1.2.2.1
    obtain ⟨tx0, hx⟩ : ∃ t, is[ws.length]? = some (.int (ins.getD cs.length 0) t) := by
      have q : ins[cs.length]? = some (ins.getD cs.length 0) := by rw [List.getD_eq_getElem?_getD, List.getElem?_eq_getElem hlt]; rfl
      rw [hwl]; exact ii.at q
    refine Z.elimG ?_
    intro vs nC oD oM oO q1 q2 q3 u1 u2 u3 hN hD0 nD hC0 hG hGd hM nM hO dO c0 c1 w1 w2 w4 w5 w6 w7 w8 o1 o2 o3 o4 o5 o6 f1 f2 f3 lm lo
    revert X
    k_fill
    intro X
    have led : Led H0 s.heap _ := .cons hP n1 (.cons hD n2 (.cons hI n3 (.cons hC n4 (.cons hG w6 (.cons hGd w5 (.cons hN w2 (.cons hD0 w1 (.cons hC0 w4 (.cons hM w7 (.cons hO w8 .nil))))))))))
    refine' enter X T S led ?k6 ?k7 (by omega) ?k9 ?kB ?_ ?c2 ?c3 ?c4 ?c5
    walk_at "mine is"
    intro g L h1 Xg Tg Sg hg1 hg2 hg3 hL F' N'
    have ndP := hD'.ntup
    have TG := tupG led hg1 (.cons (by simp) (.cons ndP (.cons (by simp) (.cons (by simp) (.cons (by simp) (.cons (by simp) (.cons (by simp) (.cons nD (.cons (by simp) (.cons nM (.cons (by rw [dO.cls]; simp) .nil)))))))))))
    try dsimp only
    try k_fold
    k_steps
    all_goals (rename Fr _ _ _ _ => F2; rename News _ _ _ _ => N2)
    all_goals try (exfalso; omega)
    refine callH ?_
    refine ih (s := ⟨_, _, _, _, _⟩) Xg Tg F2.keep (by exact hh) (by show _ + 1 + _ < _; omega) (by show _ + 3 + _ < _; omega) (Z.of (TG.trans (tupFr F2)) N2 hN (by k_mem) hD0 (by k_mem) hC0 (by k_mem) hG (by k_mem) hGd (by k_mem) hM (by k_mem) hO (by k_mem)) J hok (by omega)
      (newsAt N2 (by k_mem)) (newsAt N2 (by k_mem)) (F2.keep _ _ (TG _ _ hR (isT _ _))) (hRs.mono (TG.trans (tupFr F2))) (newsAt N2 (by k_mem)) (newsAt N2 (.head _)) iw.snoc (by simpa [or_imp, forall_and] using hcs) (by simp; omega)
      (newsOwn N2 (by k_mem)) (newsOwn N2 (by k_mem)) (newsOwn N2 (by k_mem)) (newsOwn N2 (.head _)) (by exact ltNe (by with_reducible assumption) (by k_mem)) (by exact ltNe (by with_reducible assumption) (by k_mem)) (by exact ltNin4 (by with_reducible assumption) (by k_mem) (by k_mem) (by k_mem) (by k_mem)) ?_
    intro h3 tk3 t3 G3 Z3
    refine Z3.elimB ?_
    intro oD3 vs3 nC3 oM3 oO3 hD3 hC3 hM3 hO3
    refine' stepC (by walk_at "mine cut") ?u ?hm G3 F2 N2 ?_
    case u => walk_at "mine updk"
    case hm => walk_at "mine updk"
    intro cl3 F3 N3 lift3
    dsimp only [List.cons_append, List.nil_append] at N3
    have kN3 : h3.get? a.N = some (instObj 162 a.Nd) := newsAt N3 (by k_mem)
    have kG3 : h3.get? a.G = some (instObj 239 a.Gd) := newsAt N3 (by k_mem)
    have kJ3 : h3.get? a.Gd = some (dictOf [⟨q1, .str (Str.ofString "netlist") u1, .ref a.N⟩, ⟨q2, .str (Str.ofString "made") u2, .ref a.M⟩, ⟨q3, .str (Str.ofString "opposite") u3, .ref a.O⟩] 3) := newsAt N3 (by k_mem)
    refine RetTo.mk ?_
    k_steps
    all_goals (rename Fr _ _ _ _ => F4; rename News _ _ _ _ => N4)
    refine callH ?_
    have Z4 := Z3.of (lift3.tup F4 N4 (by walk_at "mine in")) N4 kN3 (by k_mem) hD3 (by k_mem) hC3 (by k_mem) kG3 (by k_mem) kJ3 (by k_mem) hM3 (by k_mem) hO3 (by k_mem)
    refine ih (s := ⟨_, _, _, _, _⟩) Xg Tg F4.keep (by exact hh) (by show _ + 1 + _ < _; omega) (by show _ + 3 + _ < _; omega) Z4 g1.1 (fun i hi' => g1.2.1.ok (hok i hi')) (by omega)
      (newsAt N4 (by k_mem)) (newsAt N4 (by k_mem)) (F4.keep _ _ (TG _ _ hR (isT _ _))) (hRs.mono (TG.trans (tupFr F4))) (newsAt N4 (by k_mem)) (newsAt N4 (.head _)) iw.snoc (by simpa [or_imp, forall_and] using hcs) (by simp; omega)
      (newsOwn N4 (by k_mem)) (newsOwn N4 (by k_mem)) (newsOwn N4 (by k_mem)) (newsOwn N4 (.head _)) (by exact ltNe (by with_reducible assumption) (by k_mem)) (by exact ltNe (by with_reducible assumption) (by k_mem)) (by exact ltNin4 (by with_reducible assumption) (by k_mem) (by k_mem) (by k_mem) (by k_mem)) ?_
    intro h5 tk5 t5 G5 Z5
    refine Z5.elimB ?_
    intro oD5 vs5 nC5 oM5 oO5 hD5 hC5 hM5 hO5
    refine' stepC (by walk_at "mine cut") ?u ?hm G5 F4 N4 ?_
    case u => walk_at "mine updk"
    case hm => walk_at "mine updk"
    intro cl5 F5 N5 lift5
    dsimp only [List.cons_append, List.nil_append] at N5
    have kN5 : h5.get? a.N = some (instObj 162 a.Nd) := newsAt N5 (by k_mem)
    have kG5 : h5.get? a.G = some (instObj 239 a.Gd) := newsAt N5 (by k_mem)
    have kJ5 : h5.get? a.Gd = some (dictOf [⟨q1, .str (Str.ofString "netlist") u1, .ref a.N⟩, ⟨q2, .str (Str.ofString "made") u2, .ref a.M⟩, ⟨q3, .str (Str.ofString "opposite") u3, .ref a.O⟩] 3) := newsAt N5 (by k_mem)
    refine RetTo.mk ?_
    k_steps
    all_goals (rename Fr _ _ _ _ => F6; rename News _ _ _ _ => N6)
    refine callH ?_
    have Z6 := Z5.of (lift5.tup F6 N6 (by walk_at "mine in")) N6 kN5 (by k_mem) hD5 (by k_mem) hC5 (by k_mem) kG5 (by k_mem) kJ5 (by k_mem) hM5 (by k_mem) hO5 (by k_mem)
    have G6 := grow_of (mods := [a.Nd, a.C, a.M, a.O]) led hg1 hL F6 N6 (by walk_at "mine kept")
    refine mux_ (s := ⟨_, _, _, _, _⟩) (σ := (tableF rows ins d (tableF rows ins d σ (cs ++ [0])).1 (cs ++ [1])).1) Xg Tg F6.keep (by exact hh) (by show _ + 1 + _ < _; omega) (by show _ + 3 + _ < _; omega) Z6 (by omega) hs.1 hs.2 hlo.1 hlo.2 ?_
    intro h7 tk7 t7 σ7 r7 e7 G7 Z7
    have e : tableF rows ins (d + 1) σ cs = (σ7, r7) := e7
    rw [e] at ret
    refine RetTo.mk ?_
    try dsimp only
    k_steps
    exact ret _ _ _ (G6.trans' G7) (Z7.own' Z.own)))
end
-- E14
section
variable {w : World} {A : Around} {s : Shared} {Q : Result → Shared → Prop} {H0 : Heap}
    {loose : List Str} {mean : ExcName → Option Value} {mg mb : Str → Option Value}
theorem fmod_nn {a b : Int} (h : 0 < b) : 0 ≤ a.fmod b := Int.fmod_nonneg_of_pos _ h
theorem fmod_lt' {a b c : Int} (h : 0 < b) (e : b ≤ c) : a.fmod b < c := Int.lt_of_lt_of_le (Int.fmod_lt_of_pos _ h) e
theorem bits64 {x : Int} (h0 : 0 ≤ x) (h1 : x < 9223372036854775808) : Builtin.Int.intBits x ≤ 64 := by
  unfold Builtin.Int.intBits
  split
  · omega
  · rename_i q
    have h2 : x.natAbs ≠ 0 := fun e => q (by rw [Int.natAbs_eq_zero.mp e]; rfl)
    have := (Nat.log2_lt (k := 63) h2).mpr (by omega)
    omega
theorem low_nn {x j : Int} (h0 : 0 ≤ j) : 0 ≤ x.fmod 1000000007 + 7919 * j + 3 := by
  have := fmod_nn (a := x) (b := 1000000007) (by omega)
  omega
theorem low_bits {x j : Int} (h0 : 0 ≤ j) (h1 : j ≤ 1000000) : Builtin.Int.intBits (x.fmod 1000000007 + 7919 * j + 3) ≤ 64 := by
  have := fmod_lt' (a := x) (b := 1000000007) (by omega) (Int.le_refl _)
  exact bits64 (low_nn h0) (by omega)
theorem ten_pos (k : Nat) : (0 : Int) < 10 ^ k := Int.pow_pos (by decide)
local macro_rules | `(tactic| walk_at "binaryOp Mult int int") => `(tactic| ((with_reducible show wpAny _ _ (binaryOp Operator.Mult (Value.int (Int.fmod _ 1000000007 + 7919 * _ + 3) _) (Value.int (Int.fmod _ _ + _ + _) _)) _ _ _); refine mul_int ?_ (IntMulOk.of_left (low_bits (by omega) (by omega)))))
theorem list_itemZ {prog : Program} {A : Around} {E : Value → Shared → Prop} {s : Shared} {g : Heap} {L : Addr} {news : List (Addr × Obj)} {value slice : PySem.Expr} {T n : Nat} {vs : List Value} {xs : List Int} {k : Int} {u : Tok} {Q : Value → Shared → Prop} (N : News g L s.heap news) (hm : (T, listOf vs.toArray n) ∈ news) (ix : Ints vs xs) (h0 : 0 ≤ k) (h1 : k < xs.length) (hl : xs.length ≤ 1000000)
    (h : ∀ t x, x ∈ xs → Q (.int x t) s)
    (hs : subscripted slice false (.ref T) (.int k u) = operate [.ref T, .int k u] (getItem (.ref T) (.int k u)) := by with_unfolding_all rfl) :
    wpAny (model prog w) A (subscriptTail value slice (.ref T) (.int k u)) Q E s := by
  obtain ⟨i, rfl⟩ := Int.eq_ofNat_of_zero_le h0
  have hi : i < xs.length := by omega
  obtain ⟨t, ht⟩ := ix.at (List.getElem?_eq_getElem hi)
  exact list_item N hm ht (by omega) (h t _ (List.getElem_mem _)) hs
local macro_rules | `(tactic| walk_at "subscriptTail") => `(tactic| ((with_reducible show wpAny _ _ (subscriptTail _ _ (Value.ref _) (Value.int (Int.fmod _ _) _)) _ _ _); ((with_unfolding_all refine' list_itemZ ?N ?p ?x ?i ?j ?l ?_); (case N => k_asm); (case p => k_mem); (case x => assumption); (case l => omega); (case i => exact fmod_nn (by omega)); (case j => exact fmod_lt' (by omega) (by omega)); intro t' x' hx')))
local macro_rules | `(tactic| walk_at "subscriptTail Name Constant ref int") => `(tactic| (k_here; kim_at))
set_option maxHeartbeats 8000000 in
theorem draw_ (X : (pre.heap_1_1 w.params).In H0) (T : Top pre.view_1_2 loose mean mg mb H0) (S : H0.StaysIn s.heap) (hh : A.handled = none) (hroom : A.depth < recursionLimit)
   {Jr Sc nj ns : Nat} {j0 j1 c : Int} {t0 t1 tc : Tok} {vs : List Value} {xs : List Int} (hJ : s.heap.get? Jr = some (listOf #[.int j0 t0, .int j1 t1, .ref Sc] nj)) (hS : s.heap.get? Sc = some (listOf vs.toArray ns)) (ix : Ints vs xs) (hne : xs ≠ []) (hle : xs.length ≤ 100)
   (hj0 : 0 ≤ j0) (hj1 : 0 ≤ j1) (hj2 : j1 ≤ 10000) (hc : 1 ≤ c) (hc2 : c ≤ 100) (nJ : H0.get? Jr = none) (nS : H0.get? Sc = none) (ne : Jr ≠ Sc)
   (ret : ∀ h' tk' t (nj' : Nat) (k0 k1 r : Int) u0 u1, Grow [Jr] s.heap h' → h'.get? Jr = some (listOf #[.int k0 u0, .int k1 u1, .ref Sc] nj') → 0 ≤ k0 → 0 ≤ k1 → k1 ≤ j1 + 1 → 0 ≤ r → r < c → Q (.ok (.ret (.int r t))) {s with heap := h', toks := tk'}) :
   codeAny (model PySem.Challenge.rw_on0108_01.row.prog w) A (.call (.ref 250) ⟨[.ref Jr, .int c tc], []⟩) Q s := Wr.out (by exact Wr.of _ : Wr (by
  have hwl := ix.length
  have hpos : 0 < xs.length := List.length_pos_iff.mpr hne
  revert X
  k_fill
  intro X
  have led : Led H0 s.heap _ := .cons hJ nJ (.cons hS nS .nil)
  refine' enter X T S led ?k6 ?k7 (by omega) ?k9 ?kB ?_ ?c2 ?c3 ?c4 ?c5
  walk_at "mine is"
  intro g L h1 Xg Tg Sg hg1 hg2 hg3 hL F' N'
  try dsimp only
  try k_fold
  k_steps
  all_goals (rename Fr _ _ _ _ => F2; rename News _ _ _ _ => N2)
  all_goals (have G := grow_of (mods := [Jr]) led hg1 hL F2 N2 (by walk_at "mine kept"))
  all_goals first
    | exact ret _ _ _ _ _ _ _ _ _ G (newsAt N2 (by k_mem)) hj0 (by omega) (by omega) (by omega) (by omega)
    | exact ret _ _ _ _ _ _ _ _ _ G (newsAt N2 (by k_mem)) (Int.fdiv_nonneg hj0 (by omega)) (by omega) (by omega) (fmod_nn (by omega)) (fmod_lt' (by omega) (Int.le_refl _))
    | exact ret _ _ _ _ _ _ _ _ _ G (newsAt N2 (by k_mem)) (Int.fdiv_nonneg (fmod_nn (ten_pos _)) (by omega)) (by omega) (by omega) (fmod_nn (by omega)) (fmod_lt' (by omega) (Int.le_refl _))
    | exact ret _ _ _ _ _ _ _ _ _ G (newsAt N2 (by k_mem)) (Int.fdiv_nonneg (Int.add_nonneg (Int.mul_nonneg (Int.mul_nonneg (low_nn (by omega)) (low_nn (by omega))) (by decide)) (by omega)) (by omega)) (by omega) (by omega) (fmod_nn (by omega)) (fmod_lt' (by omega) (Int.le_refl _))))
theorem drawN_ (X : (pre.heap_1_1 w.params).In H0) (T : Top pre.view_1_2 loose mean mg mb H0) (S : H0.StaysIn s.heap) (hh : A.handled = none) (hroom : A.depth < recursionLimit)
   {Jr Sc nj ns : Nat} {j0 j1 c : Int} {t0 t1 tc : Tok} {vs : List Value} {xs : List Int} (hJ : s.heap.get? Jr = some (listOf #[.int j0 t0, .int j1 t1, .ref Sc] nj)) (hS : s.heap.get? Sc = some (listOf vs.toArray ns)) (ix : Ints vs xs) (hne : xs ≠ []) (hle : xs.length ≤ 100)
   (hj0 : 0 ≤ j0) (hj1 : 0 ≤ j1) (hj2 : j1 ≤ 10000) (hc : 1 ≤ c) (hc2 : c ≤ 100) (nJ : H0.get? Jr = none) (nS : H0.get? Sc = none) (ne : Jr ≠ Sc)
   (ret : ∀ h' tk' t (nj' : Nat) (k0 k1 : Int) (rn : Nat) u0 u1, Grow [Jr] s.heap h' → h'.get? Jr = some (listOf #[.int k0 u0, .int k1 u1, .ref Sc] nj') → 0 ≤ k0 → 0 ≤ k1 → k1 ≤ j1 + 1 → Hold ((rn : Int) < c) → Q (.ok (.ret (.int (rn : Int) t))) {s with heap := h', toks := tk'}) :
   codeAny (model PySem.Challenge.rw_on0108_01.row.prog w) A (.call (.ref 250) ⟨[.ref Jr, .int c tc], []⟩) Q s :=
  draw_ X T S hh hroom hJ hS ix hne hle hj0 hj1 hj2 hc hc2 nJ nS ne fun h' tk' t nj' k0 k1 r u0 u1 G e a b c d f => by
    obtain ⟨rn, rfl⟩ := Int.eq_ofNat_of_zero_le d
    exact ret h' tk' t nj' k0 k1 rn u0 u1 G e a b c ⟨f⟩
end
-- E15
section
variable {w : World} {A : Around} {s : Shared} {Q : Result → Shared → Prop} {H0 : Heap}
    {loose : List Str} {mean : ExcName → Option Value} {mg mb : Str → Option Value}
theorem frGood {g h : Heap} {L : Addr} {u m₀ : Str → Option Value} {x n : Str} {v : Value} (F : Fr g L h (fun y => if y = x then u y else if [n].contains y then u y else m₀ y)) (hu : u n = some v) (hn : n ≠ x) :
    Fr g L h (fun y => if y = n then some v else if y = x then u y else m₀ y) := by
  have e : (fun y => if y = x then u y else if [n].contains y then u y else m₀ y) = (fun y => if y = n then some v else if y = x then u y else m₀ y) := by
    funext y
    by_cases h1 : y = n
    · subst h1; simp [hn, hu]
    · by_cases h2 : y = x
      · simp [h2, Ne.symm hn]
      · simp [h1, h2]
  rw [e] at F; exact F
theorem holds_snoc : ∀ {ls : List Lt} {cs : List Int} {i : Nat} {l : Lt} {c : Int}, ls[i]? = some l → cs[i]? = some c → holdsB (ls.take (i + 1)) (cs.take (i + 1)) = (holdsB (ls.take i) (cs.take i) && l.holds c)
  | [], _, _, _, _, h, _ => by simp at h
  | _ :: _, [], _, _, _, _, h => by simp at h
  | l :: ls, c :: cs, 0, _, _, h1, h2 => by
    simp at h1 h2; subst h1 h2; simp [holdsB]
  | l :: ls, c :: cs, i + 1, l', c', h1, h2 => by
    have ih := holds_snoc (ls := ls) (cs := cs) (i := i) (l := l') (c := c') (by simpa using h1) (by simpa using h2)
    show (l.holds c && holdsB (ls.take (i + 1)) (cs.take (i + 1))) = (l.holds c && holdsB (ls.take i) (cs.take i) && l'.holds c')
    rw [ih, Bool.and_assoc]
local macro_rules | `(tactic| walk_at "exec For Name Call cons nil") => `(tactic| (k_here; (rename Fr _ _ _ _ => lF'); (with_unfolding_all refine' For_invVF lF' ?k1 ?k2 ?_; (case k1 => exact rfl); (case k2 => exact rfl); k_whole)))
noncomputable def bitS (c : Int) : Str := if c = 0 then Str.ofString "0" else Str.ofString "1"
noncomputable def Lt.bq : Lt → Bool | .b => true | .q => true | _ => false
theorem item01 {prog : Program} {A : Around} {E : Value → Shared → Prop} {s : Shared} {value slice : PySem.Expr} {c : Int} {t u : Tok} {Q : Value → Shared → Prop} (hc : Bit c) (h : ∀ t' tk, Q (.str (bitS c) t') { s with toks := tk })
    (hs : subscripted slice false (.str (Str.ofString "01") t) (.int c u) = operate [.str (Str.ofString "01") t, .int c u] (getItem (.str (Str.ofString "01") t) (.int c u)) := by with_unfolding_all rfl)
    (ht : ∀ r, letTemporaryGo value (.str (Str.ofString "01") t) r = pure () := by intro _; with_unfolding_all rfl) :
    wpAny (model prog w) A (subscriptTail value slice (.str (Str.ofString "01") t) (.int c u)) Q E s := by
  rcases hc with rfl | rfl
  · exact item_str (by decide) (by decide) (by decide) (fun _ => by rw [show Txt.item (Str.ofString "01") 0 = bitS 0 by decide]; exact h _ _) hs ht
  · exact item_str (by decide) (by decide) (by decide) (fun _ => by rw [show Txt.item (Str.ofString "01") 1 = bitS 1 by decide]; exact h _ _) hs ht
theorem in_bq {prog : Program} {A : Around} {E : Value → Shared → Prop} {s : Shared} {l : Lt} {t u : Tok} {Q : Value → Shared → Prop} (h : Q (.bool l.bq) s) : wpAny (model prog w) A (compareOp .In (.str l.str t) (.str (Str.ofString "b?") u)) Q E s := by
  refine in_str ?_
  have e : (!(Builtin.Str.occurrences (Str.ofString "b?") l.str 0 (Str.ofString "b?").length 1).isEmpty) = l.bq := by cases l <;> decide +kernel
  rw [e]; exact h
theorem ot_one (o : Ot) : (o.str == Str.ofString "1") = decide (o = .o) := by cases o <;> decide +kernel
theorem holds_bq {l : Lt} {c : Int} (h : Bit c) : l.holds c = ((bitS c == l.str) || l.bq) := by
  rcases h with rfl | rfl <;> cases l <;> decide +kernel
local macro_rules | `(tactic| walk_at "compareOp In str str") => `(tactic| ((with_reducible show wpAny _ _ (compareOp _ (Value.str (Lt.str _) _) _) _ _ _); refine in_bq ?_))
local macro_rules | `(tactic| walk_at "subscriptTail") => `(tactic| ((with_reducible show wpAny _ _ (subscriptTail _ _ (Value.str _ _) (Value.int _ _)) _ _ _); (with_unfolding_all refine' item01 ?b ?_); (case b => assumption); intro t' tk'))
theorem toldStep {rows : List Row} {cs : List Int} {i : Nat} {ls : List Lt} {o : Ot} (h : rows[i]? = some (ls, o)) : toldF (rows.drop i) cs = if holdsB ls cs then (if o = .o then 1 else 0) else toldF (rows.drop (i + 1)) cs := by
  obtain ⟨p1, q1⟩ := List.getElem?_eq_some_iff.mp h
  rw [List.drop_eq_getElem_cons p1, q1]; rfl
theorem holdStep {ls : List Lt} {cs : List Int} {vs ws : List Value} {i : Nat} (iv : Strs vs ls) (iw : Ints ws cs) (hlen : ls.length = cs.length) (hcs : ∀ c ∈ cs, Bit c) (hi : i < cs.length)
    {Q : Prop} (k : ∀ l c t1 t2, vs[i]? = some (.str (Lt.str l) t1) → ws[i]? = some (.int c t2) → Bit c → (∀ b, b = ((bitS c == l.str) || l.bq) → holdsB (ls.take (i + 1)) (cs.take (i + 1)) = (holdsB (ls.take i) (cs.take i) && b)) → Q) : Q := by
  have hc : cs[i]? = some cs[i] := List.getElem?_eq_getElem hi
  have hl : ls[i]? = some ls[i] := List.getElem?_eq_getElem (hlen ▸ hi)
  obtain ⟨t1, hv⟩ := iv.at hl
  obtain ⟨t2, hw⟩ := iw.at hc
  have hb := hcs _ (List.mem_of_getElem? hc)
  exact k _ _ t1 t2 hv hw hb fun b e => by rw [holds_snoc hl hc, e, holds_bq hb]
inductive GoodJ (l : List (Addr × Obj)) (b : Bool) (m : Str → Option Value) : List (Addr × Obj) → Prop where
  | mk (h : m (Str.ofString "good") = some (.bool b)) : GoodJ l b m l
local macro_rules | `(tactic| k_lt $x:ident) => `(tactic| skip)
local macro_rules | `(tactic| walk_at "mine idle 1") => `(tactic| skip)
set_option maxHeartbeats 8000000 in
theorem told_ (X : (pre.heap_1_1 w.params).In H0) (T : Top pre.view_1_2 loose mean mg mb H0) (S : H0.StaysIn s.heap) (hh : A.handled = none) (hroom : A.depth < recursionLimit)
   {R Sn nr nc : Nat} {rs ws : List Value} {rows : List Row} {cs : List Int} (hR : s.heap.get? R = some (tupOf rs nr)) (hRs : RowsAt s.heap rs rows)
   (hC : s.heap.get? Sn = some (listOf ws.toArray nc)) (iw : Ints ws cs) (hcs : ∀ c ∈ cs, Bit c) (hle : cs.length ≤ 100) (hrow : ∀ r ∈ rows, r.1.length = cs.length) (n3 : H0.get? Sn = none)
   (ret : ∀ h' tk' t, Grow [] s.heap h' → Q (.ok (.ret (.int (toldF rows cs) t))) {s with heap := h', toks := tk'}) :
   codeAny (model PySem.Challenge.rw_on0108_01.row.prog w) A (.call (.ref 257) ⟨[.ref R, .ref Sn], []⟩) Q s := Wr.out (by exact Wr.of _ : Wr (by
  have hwl := iw.length
  revert X
  k_fill
  intro X
  have led : Led H0 s.heap _ := .cons hC n3 .nil
  refine' enter X T S led ?k6 ?k7 (by omega) ?k9 ?kB ?_ ?c2 ?c3 ?c4 ?c5
  walk_at "mine is"
  intro g L h1 Xg Tg Sg hg1 hg2 hg3 hL F' N'
  have TG := tupG led hg1 (by walk_at "mine notup")
  have hgR := TG _ _ hR (isT _ _)
  have hgRs := hRs.mono TG
  try dsimp only
  try k_fold
  k_steps
  rename Fr _ _ _ _ => F4
  rename News _ _ _ _ => N4
  refine ⟨forT_tup F4 ?_ (by intro _; rfl)⟩
  k_steps
  rename Fr _ _ _ _ => F5
  rename News _ _ _ _ => N5
  obtain ⟨J, hJe⟩ : ∃ J : Nat → (Str → Option Value) → List (Addr × Obj) → Prop, J = fun i _ nx => FixJ [(Sn, listOf ws.toArray nc)] (toldF rows cs = toldF (rows.drop i) cs) nx := ⟨_, rfl⟩
  refine ForT.mk [Str.ofString "letters", Str.ofString "state", Str.ofString "out", Str.ofString "good", Str.ofString "at"] J (by exact hh) hgR F5 N5 (JH hJe (.mk rfl)) ?_ ?_
  · intro i v u nx h6 tk6 I oI hv hj hoI hne F6 N6
    obtain ⟨hJ⟩ := JE hJe hj
    have zI := hne.1
    revert v
    refine hgRs.getE ?_
    intro rls ro ra rT rtk rvs rn rm hr hra hrT hst
    have hJ' := hJ.trans (toldStep hr)
    have hll : rls.length = cs.length := hrow _ (List.mem_of_getElem? hr)
    have hsl := hst.length
    have itup : IsTup h6 ra #[.ref rT, .none, .str ro.str rtk] := ⟨_, F6.keep _ _ hra, rfl, _, rfl⟩
    refine unpackN_ F6 N6 itup (by exact hh) (by rfl) (by rfl) ?_
    intro h7 F7 N7
    try k_fold
    k_steps
    rename Fr _ _ _ _ => F8
    rename News _ _ _ _ => N8
    refine ⟨?_⟩
    obtain ⟨K, hKe⟩ : ∃ K : Nat → (Str → Option Value) → List (Addr × Obj) → Prop, K = fun i m nx => GoodJ [(Sn, listOf ws.toArray nc), (I, oI)] (holdsB (rls.take i) (cs.take i)) m nx := ⟨_, rfl⟩
    refine' for_range (n := ws.length) [Str.ofString "good"] K (by exact hh) (by assumption) (by omega) (by omega) ?F ?N ?Z ?_ ?_
    case F => k_asm
    case N => k_asm
    case Z => exact JH hKe (.mk rfl)
    · intro j ti u' news₁ h2 tk2 I' oI' hi hk hoI' hne' F9 N9
      obtain ⟨hu⟩ := JE hKe hk
      have zI' := hne'.1
      have zI2 := hne'.2.1
      refine holdStep (i := j) hst iw hll hcs (by omega) ?_
      intro l c t1 t2 hvl hw hbit hsn
      try k_fold
      k_steps
      all_goals (rename Fr _ _ _ _ => Fa; rename News _ _ _ _ => Na)
      · exact Post.next (news' := [(Sn, listOf ws.toArray nc), (I, oI)]) Fa (AllIn.news (r := [(Sn, listOf ws.toArray nc), (I, oI), (I', oI')]) (by walk_at "mine allin") Na) hne' ⟨JH hKe (.mk (hu.trans (by rw [hsn true (by rw [‹(bitS c == l.str) = true›]; rfl), Bool.and_true]))), by walk_at "mine offr"⟩
      · exact Post.next (news' := [(Sn, listOf ws.toArray nc), (I, oI)]) Fa (AllIn.news (r := [(Sn, listOf ws.toArray nc), (I, oI), (I', oI')]) (by walk_at "mine allin") Na) hne' ⟨JH hKe (.mk (hu.trans (by rw [hsn true (by rw [‹l.bq = true›, Bool.or_true]), Bool.and_true]))), by walk_at "mine offr"⟩
      · exact Post.next (news' := [(Sn, listOf ws.toArray nc), (I, oI)]) Fa (AllIn.news (r := [(Sn, listOf ws.toArray nc), (I, oI), (I', oI')]) (by walk_at "mine allin") Na) hne' ⟨JH hKe (.mk (by rw [hsn false (by rw [‹(bitS c == l.str) = false›, ‹l.bq = false›]; rfl), Bool.and_false]; rfl)), by walk_at "mine offr"⟩
    · intro u' nx h6 tk6 hk F6 N6
      obtain ⟨hu⟩ := JE hKe hk
      rw [hwl, ← hll, List.take_length, hll, List.take_length] at hu
      replace F6 := frGood F6 hu (by decide)
      generalize hb : holdsB rls cs = b at hu F6 hJ'
      try k_fold
      k_steps
      all_goals (rename Fr _ _ _ _ => Fa; rename News _ _ _ _ => Na)
      · have G := grow_of (mods := []) led hg1 hL Fa Na (by walk_at "mine kept")
        rw [hJ', if_pos ‹b = true›, if_pos (of_decide_eq_true ((ot_one ro).symm.trans ‹_›))] at ret
        exact ret _ _ _ G
      · have G := grow_of (mods := []) led hg1 hL Fa Na (by walk_at "mine kept")
        rw [hJ', if_pos ‹b = true›, if_neg (of_decide_eq_false ((ot_one ro).symm.trans ‹_›))] at ret
        exact ret _ _ _ G
      · exact Post.next (news' := [(Sn, listOf ws.toArray nc)]) Fa (AllIn.news (r := [(Sn, listOf ws.toArray nc), (I, oI)]) (by walk_at "mine allin") Na) hne ⟨JH hJe (.mk (by rw [hJ', if_neg (by rw [‹b = false›]; exact Bool.false_ne_true)])), by walk_at "mine offs"⟩
  · intro u nx h6 tk6 hj F6 N6
    obtain ⟨hJ⟩ := JE hJe hj
    try k_fold
    k_steps
    have e : toldF rows cs = 0 := by rw [hJ, hRs.length, List.drop_length]; rfl
    rw [e] at ret
    exact ret _ _ _ (grow_of led hg1 hL F6 N6 (by walk_at "mine kept"))))
end
-- E16L
section
variable {w : World} {A : Around} {s : Shared} {Q : Result → Shared → Prop} {H0 : Heap}
    {loose : List Str} {mean : ExcName → Option Value} {mg mb : Str → Option Value}
section
variable {prog : Program} {w : World} {A : Around} {E : Value → Shared → Prop} {s : Shared} {env : Env} {g : Heap} {target : PySem.Expr} {body : List Stmt} {Q : Flow → Shared → Prop}

noncomputable def ForL (prog : Program) (w : World) (A : Around) (g : Heap) (env : Env) (target : PySem.Expr) (body : List Stmt) (Q : Flow → Shared → Prop) (xv : Value) (s₁ : Shared) : Prop :=
  ∃ (Tp : Nat) (vs : List Value) (k : Nat) (news : List (Addr × Obj)) (m₀ : Str → Option Value) (stored : List Str) (J : Nat → (Str → Option Value) → List (Addr × Obj) → Prop),
      xv = .ref Tp ∧ A.handled = none ∧ g.get? Tp = some (listOf vs.toArray k) ∧ Fr g env.locals s₁.heap m₀ ∧ News g env.locals s₁.heap news ∧ J 0 m₀ news ∧
      (∀ s₂ : Shared, (∃ h, s₂ = { s₁ with heap := h }) → ∀ i v (u : Str → Option Value) news₁ h tk (I : Nat) oI, vs[i]? = some v → J i u news₁ → oI.cls = .type "list_iterator" → AllNe I news₁ → Fr g env.locals h (fun y => if stored.contains y then u y else m₀ y) → News g env.locals h (news₁ ++ [(I, oI)]) →
        wpAny (model prog w) A (assign target env v) (fun _ s₃ => wpAny (model prog w) A (execs body env) (Post g env.locals (fun m' nx => J (i + 1) m' nx ∧ ∀ y, stored.contains y = false → m' y = m₀ y) I oI s₂ Q) (fun _ _ => False) s₃) (fun _ _ => False) { s₂ with heap := h, toks := tk }) ∧
      (∀ (u : Str → Option Value) news₁ h tk, J vs.length u news₁ → Fr g env.locals h (fun y => if stored.contains y then u y else m₀ y) → News g env.locals h news₁ → Q .next { s₁ with heap := h, toks := tk })
theorem ForL.mk {s₁ : Shared} {Tp : Nat} {vs : List Value} {k : Nat} {news : List (Addr × Obj)} {m₀ : Str → Option Value} (stored : List Str) (J : Nat → (Str → Option Value) → List (Addr × Obj) → Prop) (hh : A.handled = none) (hg : g.get? Tp = some (listOf vs.toArray k)) (F : Fr g env.locals s₁.heap m₀) (N : News g env.locals s₁.heap news) (h0 : J 0 m₀ news)
    (turn : ∀ i v (u : Str → Option Value) news₁ h tk (I : Nat) oI, vs[i]? = some v → J i u news₁ → oI.cls = .type "list_iterator" → AllNe I news₁ → Fr g env.locals h (fun y => if stored.contains y then u y else m₀ y) → News g env.locals h (news₁ ++ [(I, oI)]) →
        wpAny (model prog w) A (assign target env v) (fun _ s₃ => wpAny (model prog w) A (execs body env) (Post g env.locals (fun m' nx => J (i + 1) m' nx ∧ ∀ y, stored.contains y = false → m' y = m₀ y) I oI s₁ Q) (fun _ _ => False) s₃) (fun _ _ => False) { s₁ with heap := h, toks := tk })
    (done : ∀ (u : Str → Option Value) news₁ h tk, J vs.length u news₁ → Fr g env.locals h (fun y => if stored.contains y then u y else m₀ y) → News g env.locals h news₁ → Q .next { s₁ with heap := h, toks := tk }) : ForL prog w A g env target body Q (.ref Tp) s₁ :=
  ⟨Tp, vs, k, news, m₀, stored, J, rfl, hh, hg, F, N, h0, fun s₂ e i v u n1 h tk I oI a b c d f n => by obtain ⟨hx, rfl⟩ := e; exact turn i v u n1 h tk I oI a b c d f n, done⟩
/-- for target in a list that stands in the base -/
theorem forL_list {pos : Pos} {iter : PySem.Expr} {m : Str → Option Value} (_F : Fr g env.locals s.heap m)
    (h : wpAny (model prog w) A (eval iter env) (ForL prog w A g env target body Q) (fun _ _ => False) s)
    (hs : ∀ x, foldedSetIterable iter env x = pure x) : wpAny (model prog w) A (exec (.For target iter body [] pos) env) Q (fun _ _ => False) s := by
  refine wpAny_For (wpAny_mono h (fun xv s₁ h₁ => ?_) fun _ _ e => e) hs
  obtain ⟨Tp, vs, k, news, m₀, stored, J, rfl, hh, hg, F, N, h0, turn, done⟩ := h₁
  have ht : s₁.heap.IsList Tp vs.toArray := ⟨_, F.keep _ _ hg, rfl, _, rfl⟩
  have hlt : Tp < g.objs.size := Heap.lt_size hg
  have hne : Tp ≠ s₁.heap.objs.size := Nat.ne_of_lt (Nat.lt_trans (Nat.lt_of_lt_of_le hlt F.above) F.ns.lt)
  refine wpAny_pyIter_list ht ?_
  have W := Walks.list (prog := prog) (w := w) hh s₁.heap.objs.size Tp hne vs.toArray
  have hlen : vs.toArray.size = vs.length := by simp
  rw [hlen] at W
  refine codeAny_mono (loopT_one (R := fun r s' => match r with | .ok f => Q f s' | .error _ => False) (C := fun o => o.cls = .type "list_iterator") (fun i m nx => J i m nx ∧ ∀ y, stored.contains y = false → m y = m₀ y) W ?_ (next_is_new F) (fun b hb => ?_) (allNe_of_mem fun p hp => Nat.ne_of_lt (Heap.lt_size (N p hp).1))
    ⟨⟨_, Heap.get?_push_size _ rfl, rfl, rfl⟩, ht.push _⟩ (fun i h st => by obtain ⟨o, e, c, _⟩ := st.1; exact ⟨o, e, c⟩) (fun i s' v Q' st hq => ?_) (F.push _) (fun p hp => ⟨Heap.get?_push_of_some _ (N p hp).1, (N p hp).2⟩) ⟨h0, fun _ _ => rfl⟩ ?_ ?_) (fun r s' x => by cases r with | ok f => exact x | error e => exact x.elim)
  · intro hm
    rcases List.mem_cons.mp hm with e | hm
    · exact absurd F.ns.lt (e ▸ Nat.lt_irrefl _)
    · exact absurd (Nat.lt_of_lt_of_le hlt F.above) ((List.mem_singleton.mp hm) ▸ Nat.lt_irrefl _)
  · rcases List.mem_cons.mp hb with e | hb
    · exact .inl e
    · exact .inr (by rw [List.mem_singleton.mp hb, hg]; simp)
  · obtain ⟨o, e, c, d⟩ := st.1
    exact goOwn e c d (by simp) hq
  · rintro i v m₁ news₁ h tk oI hi hP ⟨hJ, hm⟩ hc hne F₁ N₁
    rw [map_st hm] at F₁
    exact turn _ ⟨_, rfl⟩ i v m₁ news₁ h tk _ oI (by simpa using hP) hJ hc hne F₁ N₁
  · rintro m₁ news₁ h tk ⟨hJ, hm⟩ F₁ N₁
    rw [map_st hm] at F₁
    exact done m₁ news₁ h tk hJ F₁ N₁
end
end
-- E16T
section
variable {w : World} {A : Around} {s : Shared} {Q : Result → Shared → Prop} {H0 : Heap}
    {loose : List Str} {mean : ExcName → Option Value} {mg mb : Str → Option Value}
section
variable {prog : Program} {w : World} {A : Around} {E : Value → Shared → Prop} {s : Shared} {env : Env} {g : Heap} {L : Addr} {m : Str → Option Value}
theorem tup_st {I Tp : Nat} {vs : List Value} {k : Nat} (hg : g.get? Tp = some (tupOf vs k)) : ∀ i (h h' : Heap) (o : Obj) (nw : List (Addr × Obj)), (h.IsTupleIter I Tp i ∧ h.IsTuple Tp vs.toArray) → h.get? I = some o → h'.get? I = some o → (∀ b o, g.get? b = some o → h'.get? b = some o) → News g L h' nw → True → (h'.IsTupleIter I Tp i ∧ h'.IsTuple Tp vs.toArray) :=
  fun i h h' o nw st e e' kp _ _ => ⟨by obtain ⟨o', q, r⟩ := st.1; rw [e] at q; cases q; exact ⟨o, e', r⟩, ⟨_, kp _ _ hg, rfl, _, rfl⟩⟩
/-- the source of a comprehension is a tuple of the base -/
noncomputable def TSrc (prog : Program) (w : World) (A : Around) (g : Heap) (L : Addr) (m : Str → Option Value) (CR : Shared → (Nat → Value → Prop) → Nat → List (Addr × Obj) → Prop) (xv : Value) (s₁ : Shared) : Prop :=
  ∃ (Tp : Nat) (vs : List Value) (k : Nat) (news : List (Addr × Obj)), xv = .ref Tp ∧ A.handled = none ∧ g.get? Tp = some (tupOf vs k) ∧ Fr g L s₁.heap m ∧ News g L s₁.heap news ∧ vs.length ≤ 1000 ∧
    ∀ s₂ : Shared, (∃ h, s₂ = { s₁ with heap := h }) → CR s₂ (fun i v => vs.toArray[i]? = some v) vs.toArray.size news
theorem TSrc.mk {CR : Shared → (Nat → Value → Prop) → Nat → List (Addr × Obj) → Prop} {s₁ : Shared} {Tp : Nat} {vs : List Value} {k : Nat} {news : List (Addr × Obj)} (hh : A.handled = none) (hg : g.get? Tp = some (tupOf vs k)) (F : Fr g L s₁.heap m) (N : News g L s₁.heap news) (hsz : vs.length ≤ 1000)
    (R : ∀ h, CR { s₁ with heap := h } (fun i v => vs.toArray[i]? = some v) vs.toArray.size news) : TSrc prog w A g L m CR (.ref Tp) s₁ := ⟨Tp, vs, k, news, rfl, hh, hg, F, N, hsz, fun s₂ e => by obtain ⟨h, rfl⟩ := e; exact R h⟩
theorem comp_tupT {ct elt iter : PySem.Expr} {x : Str} {px : Pos} {scope : Scope} {cl : List (Str × Addr)} {pos : Pos} {Q : Value → Shared → Prop} (_F : Fr g L s.heap m)
    (hclos : closureFor scope env = pure cl) (hcell : ∀ y ∈ scope.names, y.2 ≠ .cell) (hkind : scope.kind = .function)
    (hnames : ∀ y ∈ scope.names, y.2 = .local → scope.names.lookup y.1 = some .local) (hx : scope.names.lookup x = some .local)
    (h : wpAny (model prog w) A (eval iter env) (TSrc prog w A g L m fun s₂ P n news => LCt.CompRestT prog w A g L m env ct elt x scope cl s₂ (fun _ => True) P (LCg.FinE g L m s₂ Q) n 0 [] news) E s)
    (hs : ∀ x, foldedSetIterable iter env x = pure x) : wpAny (model prog w) A (eval (.ListComp elt [⟨.Name x px, iter, [ct], 0⟩] scope pos) env) Q E s := by
  rw [eval_ListComp]
  refine wpAny_comprehension_free (use := none) rfl hs hclos hkind hnames (wpAny_mono h (fun xv s₁ h₁ => ?_) fun _ _ e => e)
  obtain ⟨Tp, vs, k, news, rfl, hh, hg, F, N, hsz, R⟩ := h₁
  have ht : s₁.heap.IsTuple Tp vs.toArray := ⟨_, F.keep _ _ hg, rfl, _, rfl⟩
  have hlt : Tp < s₁.heap.objs.size := Heap.lt_size (F.keep _ _ hg)
  refine wpAny_pyIter_tuple ht ?_
  refine LCt.block_T (Walks.tuple hh s₁.heap.objs.size Tp (Nat.ne_of_lt hlt) vs.toArray) (by rw [List.size_toArray, sizeLine_eq]; omega) (fun i h st => by obtain ⟨o, e, _⟩ := st.1; exact ⟨o, e⟩) (tup_st hg) hcell hkind hx ⟨⟨_, Heap.get?_push_size _ rfl, rfl, rfl⟩, ht.push _⟩ (fun b hb => ?_)
    (F.push _) (fun p hp => ⟨Heap.get?_push_of_some _ (N p hp).1, (N p hp).2⟩) (Nat.ne_of_lt F.ns.lt) (next_is_new F) (fun p hp => Nat.ne_of_lt (Heap.lt_size (N p hp).1)) trivial (R _ ⟨_, rfl⟩) ?_
  · show b < (s₁.heap.push _).objs.size
    rw [Heap.size_push]
    rcases List.mem_cons.mp hb with rfl | hb
    · exact Nat.lt_succ_self _
    · rw [List.mem_singleton.mp hb]; exact Nat.lt_succ_of_lt hlt
  · intro D C h tk m' ys news' F' N' o1 hn hC₀ hD₀ hCL hDL hCD offC fin
    refine ⟨m', hn, fun h'' hs'' => fin D h'' tk (F'.change hs'' hCL hC₀) (fun p hp => ⟨hs''.extBut _ _ ?_ (N' p hp).1, (N' p hp).2⟩) o1⟩
    rcases List.mem_cons.mp hp with rfl | hp
    · exact Ne.symm hCD
    · exact offC p hp
theorem asg_tupU {elt iter : PySem.Expr} {x y : Str} {px py : Pos} {scope : Scope} {cl : List (Str × Addr)} {pos spos : Pos} {Q : Flow → Shared → Prop} (_F : Fr g L s.heap m) (hLe : env.locals = L)
    (hsw : swapsWith (.ListComp elt [⟨.Name x px, iter, [], 0⟩] scope pos) (some (.Name y py)) spos.line env = pure true)
    (hclos : closureFor scope env = pure cl) (hcell : ∀ z ∈ scope.names, z.2 ≠ .cell) (hkind : scope.kind = .function)
    (hnames : ∀ z ∈ scope.names, z.2 = .local → scope.names.lookup z.1 = some .local) (hx : scope.names.lookup x = some .local)
    (hy : env.kindOf y = some .local) (hp : (env.scope.kind == .class || (env.scope.kind == .module && env.locals != env.globals)) = false)
    (h : wpAny (model prog w) A (eval iter env) (TSrc prog w A g L m fun s₂ P n news => LCg.CompRest prog w A g L m env elt x scope cl s₂ (fun _ => True) P (LCg.FinA g L m s₂ y Q) n 0 [] news) E s)
    (hs : ∀ x, foldedSetIterable iter env x = pure x) : wpAny (model prog w) A (exec (.Assign [.Name y py] (.ListComp elt [⟨.Name x px, iter, [], 0⟩] scope pos) spos) env) Q E s := by
  subst hLe
  rw [exec_Assign_Name_used _ _ _ _ hsw]
  refine wpAny_bind (wpAny_standAt (wpAny_bind ?_))
  show wpAny _ A (do let _ ← comprehension (.ListComp elt [⟨.Name x px, iter, [], 0⟩] scope pos) scope env _ (newList []) false (eval iter env) (some (assign (.Name y py) env))) _ _ s
  refine wpAny_bind (wpAny_mono (wpAny_comprehension_free (use := some (assign (.Name y py) env)) (Q := fun _ s' => Q .next s') rfl hs hclos hkind hnames
    (wpAny_mono h (fun xv s₁ h₁ => ?_) fun _ _ e => e)) (fun _ s' hq => wpAny_pure (wpAny_pure hq)) fun _ _ e => e)
  obtain ⟨Tp, vs, k, news, rfl, hh, hg, F, N, hsz, R⟩ := h₁
  have ht : s₁.heap.IsTuple Tp vs.toArray := ⟨_, F.keep _ _ hg, rfl, _, rfl⟩
  have hlt : Tp < s₁.heap.objs.size := Heap.lt_size (F.keep _ _ hg)
  refine wpAny_pyIter_tuple ht ?_
  refine LCg.block_U (Walks.tuple hh s₁.heap.objs.size Tp (Nat.ne_of_lt hlt) vs.toArray) (by rw [List.size_toArray, sizeLine_eq]; omega) (fun i h st => by obtain ⟨o, e, _⟩ := st.1; exact ⟨o, e⟩) (tup_st hg) hcell hkind hx ⟨⟨_, Heap.get?_push_size _ rfl, rfl, rfl⟩, ht.push _⟩ (fun b hb => ?_)
    (F.push _) (fun p hp => ⟨Heap.get?_push_of_some _ (N p hp).1, (N p hp).2⟩) (Nat.ne_of_lt F.ns.lt) (next_is_new F) (fun p hp => Nat.ne_of_lt (Heap.lt_size (N p hp).1)) trivial (R _ ⟨_, rfl⟩) ?_
  · show b < (s₁.heap.push _).objs.size
    rw [Heap.size_push]
    rcases List.mem_cons.mp hb with rfl | hb
    · exact Nat.lt_succ_self _
    · rw [List.mem_singleton.mp hb]; exact Nat.lt_succ_of_lt hlt
  · intro D C h' tk m' ys news' F' N' o1 hn hC₀ hD₀ hCL hDL hCD offC fin
    show wpAny _ A (assign (.Name y py) env (.ref D)) _ _ _
    refine wpAny_assign_Name (wpAny_storeName_local hy F'.ns (fun h₂ hn₂ hs₂ => ?_) hp)
    refine ⟨m', hn.sameBut hs₂ hCL, fun h'' hs'' => fin D h'' _ ((F'.set hn₂ hs₂).change hs'' hCL hC₀) (fun p hp => ?_) o1⟩
    have z : h₂.get? p.1 = some p.2 := hs₂.extBut _ _ (N' p hp).2.1 (N' p hp).1
    refine ⟨hs''.extBut _ _ ?_ z, (N' p hp).2⟩
    rcases List.mem_cons.mp hp with rfl | hp
    · exact Ne.symm hCD
    · exact offC p hp
theorem comp_none {ct elt : PySem.Expr} {x : Str} {scope : Scope} {cl : List (Str × Addr)} {S : List (Addr × Obj) → Prop} {P : Nat → Value → Prop} {Fin : List Value → List (Addr × Obj) → Prop}
    (n : Nat) (J : Nat → List (Addr × Obj) → Prop)
    (turn : ∀ i news, i < n → J i news → ∀ v (I : Nat) oI (C : Nat) oC (D : Nat) m₂ h tk (E' : Value → Shared → Prop), P i v → LCg.NsObj oC m₂ → m₂ x = some v → Fr g L h m → News g L h ((I, oI) :: (C, oC) :: (D, LCg.lst []) :: news) → LCg.Off3 I C D news → (I ≠ C ∧ I ≠ D ∧ C ≠ D) →
      wpAny (model prog w) A (isTrue ct (compEnvC scope cl C env) (eval ct (compEnvC scope cl C env))) (fun ok s' => Hold (ok = false ∧ LCg.CompEnd g L m { s with heap := h, toks := tk } I oI C oC D (LCg.lst []) S (fun _ news' => J (i + 1) news') Value.none s')) E' { s with heap := h, toks := tk })
    (fin : ∀ news, J n news → Fin [] news) : ∀ k i news, k + i = n → J i news → LCt.CompRestT prog w A g L m env ct elt x scope cl s S P Fin k i [] news := by
  intro k
  induction k with
  | zero => intro i news e hJ; rw [Nat.zero_add] at e; subst e; exact LCt.CompRestT.zero (fin _ hJ)
  | succ k ih =>
    intro i news e hJ
    refine LCt.CompRestT.succ fun v I oI C oC D m₂ h tk E' hP hn hm F N o ne => ?_
    refine wpAny_mono (turn i news (by omega) hJ v I oI C oC D m₂ h tk E' hP hn hm F N o ne) (fun ok s₂ z => ?_) fun _ _ e => e
    obtain ⟨rfl, h', tk', news', e1, e2, e3, e4, e5, e6⟩ := z.out
    rw [if_neg Bool.false_ne_true]
    exact ⟨h', tk', news', e1, e2, e3, e4, e5, ih (i + 1) _ (by omega) e6⟩
theorem comp_noneS {ct elt : PySem.Expr} {x : Str} {scope : Scope} {cl : List (Str × Addr)} {S : List (Addr × Obj) → Prop} {P : Nat → Value → Prop} {Fin : List Value → List (Addr × Obj) → Prop} {news : List (Addr × Obj)}
    (n : Nat) (hS : S news)
    (turn : ∀ i, i < n → ∀ v (I : Nat) oI (C : Nat) oC (D : Nat) m₂ h tk (E' : Value → Shared → Prop), P i v → LCg.NsObj oC m₂ → m₂ x = some v → Fr g L h m → News g L h ((I, oI) :: (C, oC) :: (D, LCg.lst []) :: news) → LCg.Off3 I C D news → (I ≠ C ∧ I ≠ D ∧ C ≠ D) →
      wpAny (model prog w) A (isTrue ct (compEnvC scope cl C env) (eval ct (compEnvC scope cl C env))) (fun ok s' => Hold (TurnEnd g L m ((I, oI) :: (C, oC) :: (D, LCg.lst []) :: news) (fun y => ok = false) { s with heap := h, toks := tk } .none s')) E' { s with heap := h, toks := tk })
    (fin : Fin [] news) : LCt.CompRestT prog w A g L m env ct elt x scope cl s S P Fin n 0 [] news := by
  refine comp_none n (fun _ nx => nx = news) ?_ ?_ _ _ _ rfl rfl
  · rintro i nx hi rfl v I oI C oC D m₂ h tk E' hP hn hm F N off ne
    refine wpAny_mono (turn i hi v I oI C oC D m₂ h tk E' hP hn hm F N off ne) (fun y s' z => ?_) fun _ _ e => e
    obtain ⟨h', tk', rfl, F', N', e⟩ := z.out
    exact ⟨e, h', tk', _, rfl, F', N', off, hS, rfl⟩
  · rintro nx rfl
    exact fin
end
end
-- E16a
section
variable {w : World} {A : Around} {s : Shared} {Q : Result → Shared → Prop} {H0 : Heap}
    {loose : List Str} {mean : ExcName → Option Value} {mg mb : Str → Option Value}
local macro_rules | `(tactic| walk_at "exec For Name Call cons nil") => `(tactic| (k_here; (rename Fr _ _ _ _ => lF'); (with_unfolding_all refine' For_invVF lF' ?k1 ?k2 ?_; (case k1 => exact rfl); (case k2 => exact rfl); k_whole)))
noncomputable def tab (vals : List Int) : Int → Option Int := fun k => if 0 ≤ k ∧ k < vals.length then some (at0 vals k) else none
local macro_rules | `(tactic| walk_at "mine isC") => `(tactic| (
  (case k6 => k_is); (case k7 => k_is); (case k9 => first | exact BindsTo.of_eq rfl | exact binds_K (Frag.In.keeps (by assumption) (by assumption)) rfl (by k_is) rfl rfl rfl); (case kB => exact rfl); (case kC => decide); (case c2 => exact rfl); (case c3 => exact rfl); (case c4 => exact rfl)))
theorem Led.lt {h : Heap} {L : Nat} {l : List (Addr × Obj)} (x : Led H0 h l) (e : h.objs.size = L) : AllLt L l := allLt_of fun p hp => e ▸ Heap.lt_size (x.all p hp).1
theorem tab_snoc (vals : List Int) (x : Int) {k : Int} (h : k = vals.length) : upd (tab vals) k x = tab (vals ++ [x]) := by
  subst h
  funext y
  unfold upd tab
  rw [List.length_append, List.length_singleton]
  by_cases h1 : y = vals.length
  · rw [if_pos h1, if_pos (by omega), at0_last h1]
  · rw [if_neg h1]
    by_cases h2 : 0 ≤ y ∧ y < vals.length
    · rw [if_pos h2, if_pos (by omega), at0_append h2.2 h2.1]
    · rw [if_neg h2, if_neg (by omega)]
theorem tab_two {prog : Program} {o : Obj} {t u : Tok} (h : o.IsDictOf (intKind prog w) [(0, .int 0 t), (1, .int 1 u)]) : OppObj prog w o (tab [0, 1]) 2 := by
  refine ⟨_, h, by simp, fun k => ?_⟩
  unfold valueAt tab
  by_cases h0 : k = 0
  · subst h0; exact .inr ⟨0, t, rfl, rfl⟩
  · by_cases h1 : k = 1
    · subst h1; exact .inr ⟨1, u, rfl, rfl⟩
    · refine .inl ⟨?_, ?_⟩
      · have e0 : ¬ (0 : Int) = k := fun e => h0 e.symm
        have e1 : ¬ (1 : Int) = k := fun e => h1 e.symm
        simp [e0, e1]
      · rw [if_neg (by simp; omega)]
theorem nets_at {n i : Nat} (h : i < n) : ((List.range n).map fun i => ((2 + i : Nat) : Int))[i]? = some ((2 + i : Nat) : Int) := by
  rw [List.getElem?_map, List.getElem?_range h]; rfl
theorem CellsAt.get {h : Heap} {vs : List Value} {cs : List Cell} (x : CellsAt h vs cs) : ∀ {i : Nat} {v : Value}, vs[i]? = some v → ∃ r, cs[i]? = some r ∧ CellAt h v r := by
  induction x with
  | nil => intro i v h; simp at h
  | cons y _ ih =>
    intro i v h
    cases i with
    | zero => simp at h; subst h; exact ⟨_, rfl, y⟩
    | succ i => simp at h; obtain ⟨r, e, z⟩ := ih h; exact ⟨r, (by simpa using e), z⟩
theorem opp_in0 {prog : Program} {A : Around} {E : Value → Shared → Prop} {s : Shared} {g : Heap} {L : Addr} {O : Nat} {news : List (Addr × Obj)} {o : Obj} {mp : Int → Option Int} {n : Nat} {k : Int} {t : Tok} {Q : Value → Shared → Prop} (N : News g L s.heap news) (hp : (O, o) ∈ news) (hd : OppObj prog w o mp n) (lo : 1 < O) (hk : mp k = none) (h : Q (.bool false) { s with toks := s.toks + 1 }) :
    wpAny (model prog w) A (compareOp .In (.int k t) (.ref O)) Q E s := opp_in N hp hd lo (by rw [hk]; exact h)
local macro_rules | `(tactic| walk_at "compareOp In int ref") => `(tactic| k_dflt ((try dsimp only); refine' opp_in0 ?N ?p ?d ?l ?k ?_; (case N => k_asm); (case p => k_mem); (case d => k_asm); (case l => first | with_reducible assumption | omega); (case k => assumption)))
theorem tab_none {vals : List Int} {k : Int} (h : k = vals.length) : tab vals k = none := if_neg (by omega)
theorem tab_some {vals : List Int} {k : Int} (h0 : 0 ≤ k) (h : k < vals.length) : tab vals k = some (at0 vals k) := if_pos ⟨h0, h⟩
structure AsgMark : Prop
local macro_rules | `(tactic| walk_at "exec Assign cons ListComp") => `(tactic| ((rename AsgMark => hmk); refine Hold.out ?_))
local macro_rules | `(tactic| walk_at "subscriptTail Attribute") => `(tactic| (k_here; k_dflt (refine PySem.W.kba_turn (value' := PySem.Expr.Name (PySem.Str.ofString "_") ⟨0, 0, 0, 0⟩) (fun _ => rfl) ?_); kim_at))
local macro_rules | `(tactic| walk_at "subscriptTail Subscript") => `(tactic| refine Hold.out ?_)
local macro_rules | `(tactic| walk_at "subscriptTail Name BinOp ref int") => `(tactic| refine Hold.out ?_)
local macro_rules | `(tactic| walk_at "binaryOp Mult int int") => `(tactic| refine Hold.out ?_)
local macro_rules | `(tactic| walk_at "call builtin:max") => `(tactic| refine Hold.out ?_)
local macro_rules | `(tactic| walk_at "eval ListComp") => `(tactic| refine Hold.out ?_)
theorem St.elimH {P : Prop} {h : Heap} {a : GA} {σ : NS} (Z : St w H0 a h σ) (k : ∀ (vs : List Value) nC p1 p2 p3 p4 p5 q1 q2 q3 q4 q5 x tx tc, h.get? a.N = some (instObj 162 a.Nd) → h.get? a.Nd = some (dictOf [⟨p1, .str (Str.ofString "name") q1, .str x tx⟩, ⟨p2, .str (Str.ofString "count") q2, .int σ.count tc⟩, ⟨p3, .str (Str.ofString "inputs") q3, .ref a.I⟩, ⟨p4, .str (Str.ofString "outputs") q4, .ref a.U⟩, ⟨p5, .str (Str.ofString "cells") q5, .ref a.C⟩] 5) → h.get? a.C = some (listOf vs.toArray nC) → CellsAt h vs σ.cells → H0.get? a.Nd = none → H0.get? a.N = none → a.C ≠ a.N → a.C ≠ a.Nd → 1 ≤ a.N → P) : P :=
  Z.elimD fun vs nC oM oO h1 h2 h3 h4 h5 t1 t2 t3 t4 t5 x tx tc _ _ _ _ _ _ hN hD hC cC _ _ _ _ _ _ _ _ w1 w2 _ _ _ _ _ o1 o2 _ _ _ _ _ _ _ _ _ _ _ _ _ _ _ _ _ _ _ _ _ _ _ _ _ _ => k vs nC h1 h2 h3 h4 h5 t1 t2 t3 t4 t5 x tx tc hN hD hC cC w1 w2 (Nat.ne_of_gt o2) (Nat.ne_of_gt (Nat.lt_trans o1 o2)) (Nat.lt_of_le_of_lt (Nat.zero_le _) o1)
theorem ninL5 {x a b c d e : Nat} (h1 : x ≠ a) (h2 : x ≠ b) (h3 : x ≠ c) (h4 : x ≠ d) (h5 : x ≠ e) : x ∉ [a, b, c, d, e] := ninQC h1 (ninQ4 h2 h3 h4 h5)
inductive VJ (w : World) (d : Nat) (tl : List (Addr × Obj)) (target : List Int) (n : Nat) : List (Addr × Obj) → Prop where
  | mk (vals : List Int) (o : Obj) (hv : vals = target) (h : OppObj PySem.Challenge.rw_on0108_01.row.prog w o (tab vals) n) : VJ w d tl target n ((d, o) :: tl)
theorem VJ.next {d : Nat} {tl : List (Addr × Obj)} {target vals : List Int} {n : Nat} {o : Obj} {k x : Int} (h : OppObj PySem.Challenge.rw_on0108_01.row.prog w o (upd (tab vals) k x) n) (hk : k = vals.length) (e : target = vals ++ [x]) : VJ w d tl target n ((d, o) :: tl) :=
  .mk _ o e.symm (by rw [← tab_snoc _ _ hk]; exact h)
theorem firstStep {n i : Nat} {g0 vals : List Int} {ls gs : List Value} (hg : Bits n g0) (ig : Ints gs g0) (il : Ints ls ((List.range n).map fun i => ((2 + i : Nat) : Int))) (hi : i < n) (hv : vals = [0, 1] ++ g0.take i)
    {Q : Prop} (k : ∀ c ty tz, gs[i]? = some (.int c ty) → ls[i]? = some (.int ((2 + i : Nat) : Int) tz) → [0, 1] ++ g0.take (i + 1) = vals ++ [c] → ((2 + i : Nat) : Int) = vals.length → Q) : Q := by
  obtain ⟨c, hc⟩ : ∃ c, g0[i]? = some c := ⟨_, List.getElem?_eq_getElem (by rw [hg.1]; exact hi)⟩
  obtain ⟨ty, hy⟩ := ig.at hc
  obtain ⟨tz, hz⟩ := il.at (nets_at hi)
  have htk : g0.take (i + 1) = g0.take i ++ [c] := by rw [List.take_add_one, hc]; rfl
  have hlk : vals.length = 2 + i := by subst hv; simp [hg.1]; omega
  exact k c ty tz hy hz (by rw [htk, hv, List.append_assoc]) (by rw [hlk])
theorem cellStep {n i : Nat} {σ : NS} {g0 vals : List Int} {kd : Str} {out : Int} {ins : List Int} (J : Inv n σ) (hg : Bits n g0) (hv : vals = runV ([0, 1] ++ g0) (σ.cells.take i)) (hc : σ.cells[i]? = some ⟨kd, out, ins⟩)
    {Q : Prop} (k : i < σ.cells.length → out = vals.length → tab vals out = none → (∀ k ∈ ins, tab vals k = some (at0 vals k)) → WfK kd ins → ins.length ≤ 3 → (∀ k, Bit (at0 vals k)) → (∀ x, x = gate kd (ins.map (at0 vals)) → runV ([0, 1] ++ g0) (σ.cells.take (i + 1)) = vals ++ [x]) → Q) : Q := by
  obtain ⟨hout, hwf, hins⟩ := J.wf _ _ hc
  dsimp only at hout hwf hins
  have hci : i < σ.cells.length := (List.getElem?_eq_some_iff.mp hc).1
  have htk : runV ([0, 1] ++ g0) (σ.cells.take (i + 1)) = vals ++ [gate kd (ins.map (at0 vals))] := by
    rw [List.take_add_one, hc, hv]; exact runV_snoc _ _ _
  have hvb : ∀ x ∈ vals, Bit x := by
    rw [hv]
    exact valsOf_bits hg (σ.cells.take i) fun c hc => by
      obtain ⟨j, hj⟩ := List.mem_iff_getElem?.mp (List.mem_of_mem_take hc)
      exact (J.wf j c hj).2.1
  have hlv : vals.length = 2 + n + i := by rw [hv, runV_len, List.length_append, hg.1, List.length_take]; simp; omega
  refine k hci (by omega) (tab_none (by omega)) (fun k hk => tab_some (hins k hk).1 (by have := (hins k hk).2; omega)) hwf (by rcases hwf with ⟨_, h⟩ | ⟨_, h⟩ | ⟨_, h⟩ <;> omega) (fun k => ?_) (fun x e => by rw [htk, e])
  unfold at0
  rw [List.getD_eq_getElem?_getD]
  cases e : vals[k.toNat]? with
  | none => exact .inl rfl
  | some y => exact hvb y (List.mem_of_getElem? e)
inductive KV : Str → List Value → Int → Prop where
  | k1 (x : Int) (t : Tok) : KV sNot [.int x t] (1 - x)
  | k2 (x2 x3 : Int) (t u v : Tok) : KV sMux [.int 0 t, .int x2 u, .int x3 v] x2
  | k3 (x2 x3 : Int) (t u v : Tok) : KV sMux [.int 1 t, .int x2 u, .int x3 v] x3
  | k4 (x1 x2 : Int) (t u : Tok) (h : IntMulOk x1 x2) : KV sAnd [.int x1 t, .int x2 u] (x1 * x2)
  | k5 (x1 x2 : Int) (t u : Tok) : KV sOr [.int x1 t, .int x2 u] (max x1 x2)
  | k6 (x1 x2 : Int) (t u : Tok) : KV sXor [.int x1 t, .int x2 u] ((x1 + x2).fmod 2)
theorem kinds {vals : List Int} {kd : Str} {ins : List Int} {ys : List Value} {gv : Int} (hwf : WfK kd ins) (hb : ∀ k, Bit (at0 vals k)) (hys : Ints ys (ins.map (at0 vals))) (e : gv = gate kd (ins.map (at0 vals))) : KV kd ys gv := by
  subst e
  rcases hwf with ⟨rfl, hlen1⟩ | ⟨rfl, hlen1⟩ | ⟨hk, hlen1⟩
  · match ins, hlen1 with
    | [x1], _ =>
      cases hys with | cons q => cases q; exact (gate_not (at0 vals x1)) ▸ .k1 _ _
  · match ins, hlen1 with
    | [x1, x2, x3], _ =>
      cases hys with | cons q => cases q with | cons q => cases q with | cons q =>
        cases q
        have e := gate_mux (at0 vals x1) (at0 vals x2) (at0 vals x3) (hb x1)
        show KV sMux _ (gate sMux [at0 vals x1, at0 vals x2, at0 vals x3])
        rw [e]
        rcases hb x1 with h | h
        · rw [h]; exact .k2 _ _ _ _ _
        · rw [h]; exact .k3 _ _ _ _ _
  · match ins, hlen1 with
    | [x1, x2], _ =>
      cases hys with | cons q => cases q with | cons q =>
        cases q
        rcases hk with rfl | rfl | rfl
        · exact (gate_and (at0 vals x1) (at0 vals x2)) ▸ .k4 _ _ _ _ (IntMulOk.of_left (by rcases hb x1 with e | e <;> rw [e] <;> decide))
        · exact (gate_or (at0 vals x1) (at0 vals x2)) ▸ .k5 _ _ _ _
        · exact ((gate_xor (at0 vals x1) (at0 vals x2)).trans (Int.fmod_eq_emod_of_nonneg _ (by decide)).symm) ▸ .k6 _ _ _ _
theorem ints_take {f : Int → Int} {ins : List Int} {ys : List Value} {j : Nat} {k : Int} {t : Tok} (h : Ints ys ((ins.take j).map f)) (e : ins[j]? = some k) : Ints (ys ++ [.int (f k) t]) ((ins.take (j + 1)).map f) := by
  rw [List.take_add_one, e, List.map_append]
  exact h.snoc
theorem max_of2 {M x1 x2 : Int} (h1 : M ∈ [x1, x2]) (h2 : ∀ k ∈ [x1, x2], k ≤ M) : M = max x1 x2 := by
  have q1 := h2 x1 (by simp)
  have q2 := h2 x2 (by simp)
  simp only [List.mem_cons, List.not_mem_nil, or_false] at h1
  omega
local macro_rules | `(tactic| k_lt $x:ident) => `(tactic| skip)
set_option maxHeartbeats 8000000 in
theorem held_ (X : (pre.heap_1_1 w.params).In H0) (T : Top pre.view_1_2 loose mean mg mb H0) (S : H0.StaysIn s.heap) (hh : A.handled = none) (hroom : A.depth < recursionLimit) (hu : A.units + 100 < cLine)
   {n : Nat} {a : GA} {σ : NS} (Z : St w H0 a s.heap σ) (J : Inv n σ) (hlen : σ.cells.length ≤ 10000) (hn : n ≤ 10)
   {Tp Lc Gl nI nT nL nG : Nat} {tn : Tok} {ls gs : List Value} {g0 : List Int} (hI : s.heap.get? a.I = some (listOf #[.ref Tp] nI)) (hT : s.heap.get? Tp = some (tupOf [.str (Str.ofString "a") tn, .ref Lc] nT))
   (hL : s.heap.get? Lc = some (listOf ls.toArray nL)) (il : Ints ls ((List.range n).map fun i => ((2 + i : Nat) : Int))) (hGl : s.heap.get? Gl = some (listOf gs.toArray nG)) (ig : Ints gs g0) (hg : Bits n g0)
   (nI0 : H0.get? a.I = none) (cI : a.C ≠ a.I) (cL : a.C ≠ Lc) (cG : a.C ≠ Gl) (nL0 : H0.get? Lc = none) (nG0 : H0.get? Gl = none)
   (ret : ∀ h' tk' D o, Grow [] s.heap h' → s.heap.get? D = none → h'.get? D = some o → OppObj PySem.Challenge.rw_on0108_01.row.prog w o (tab (valsOf g0 σ.cells)) (2 + n + σ.cells.length) → Q (.ok (.ret (.ref D))) {s with heap := h', toks := tk'}) :
   codeAny (model PySem.Challenge.rw_on0108_01.row.prog w) A (.call (.ref 262) ⟨[.ref a.N, .ref Gl], []⟩) Q s := Wr.out (by exact Wr.of _ : Wr (by
  refine Z.elimH ?_
  intro vs nC p1 p2 p3 p4 p5 q1 q2 q3 q4 q5 x tx tc hN hD hC cC w1 w2 cN cNd n1
  have hll : ls.length = n := by simpa using il.length
  have hgl : gs.length = n := ig.length.trans hg.1
  revert X
  k_fill
  intro X
  have led : Led H0 s.heap _ := .cons hN w2 (.cons hD w1 (.cons hI nI0 (.cons hL nL0 (.cons hGl nG0 .nil))))
  refine' enterC X T S led ?k6 ?k7 (by omega) ?k9 ?kB ?kC ?_ ?c2 ?c3 ?c4
  walk_at "mine isC"
  intro g L h1 tk cells Xg Tg Sg hg1 hg2 hg3 hLs F' N' hcl
  have TG := tupG led hg1 (by walk_at "mine notup")
  have hgT := TG _ _ hT (isT _ _)
  have hgC : g.get? a.C = some (listOf vs.toArray nC) := hg1 _ _ hC (ninL5 cN cNd cI cL cG)
  have cCg := cC.mono TG
  have lts := led.ltp hLs
  have lo : 1 < L + 1 := Nat.lt_of_le_of_lt n1 (lts _ (.head _))
  refine oneCell hcl.one N' ?_
  clear N' hcl
  intro oc hoc N'
  replace hoc : oc.data = .cell none := hoc
  try dsimp only [List.cons_append, List.nil_append] at N' ⊢
  try k_fold
  k_steps
  all_goals (rename Fr _ _ _ _ => F2; rename News _ _ _ _ => N2)
  refine ⟨?_⟩
  refine tup_item (i := 1) (F2.keep _ _ hgT) rfl (by decide) ?_
  k_steps
  all_goals (rename Fr _ _ _ _ => F3; rename News _ _ _ _ => N3)
  rename Obj.IsDictOf _ _ _ => hd0
  have hOp := tab_two hd0
  have lo1 : 1 < h1.objs.size := Nat.lt_trans lo (ltP (b := L + 1) (by assumption) (by k_mem))
  rename_i oc' hce _ _ _ _ _ _ _ _ _ _ _ _
  refine ⟨?_⟩
  obtain ⟨J1, hJ1⟩ : ∃ J1 : Nat → (Str → Option Value) → List (Addr × Obj) → Prop, J1 = fun i _ nx => VJ w h1.objs.size [(L + 1, oc'), (a.N, instObj 162 a.Nd), (a.Nd, dictOf [⟨p1, .str (Str.ofString "name") q1, .str x tx⟩, ⟨p2, .str (Str.ofString "count") q2, .int σ.count tc⟩, ⟨p3, .str (Str.ofString "inputs") q3, .ref a.I⟩, ⟨p4, .str (Str.ofString "outputs") q4, .ref a.U⟩, ⟨p5, .str (Str.ofString "cells") q5, .ref a.C⟩] 5), (a.I, listOf #[.ref Tp] nI), (Lc, listOf ls.toArray nL), (Gl, listOf gs.toArray nG)] ([0, 1] ++ g0.take i) (2 + i) nx := ⟨_, rfl⟩
  refine' for_range (n := n) [] J1 (by exact hh) (by assumption) (by omega) (by omega) ?F ?N ?Z ?_ ?_
  case F => k_asm
  case N => k_asm
  case Z => exact JH hJ1 (.mk _ _ rfl hOp)
  · intro i ti u nx h2 tk2 I oI hi hj hoI hne F4 N4
    obtain ⟨vals, o, hv, hOi⟩ := JE hJ1 hj
    have zI : I ∉ [h1.objs.size] := nin_of hne.1
    refine firstStep hg ig il hi hv ?_
    intro c ty tz hy hz htk hlk
    try k_fold
    k_steps
    all_goals (rename Fr _ _ _ _ => F5; rename News _ _ _ _ => N5)
    rename OppObj _ _ _ (upd _ _ _) _ => hOn
    exact Post.next (news' := [(h1.objs.size, _), (L + 1, oc'), (a.N, instObj 162 a.Nd), (a.Nd, dictOf [⟨p1, .str (Str.ofString "name") q1, .str x tx⟩, ⟨p2, .str (Str.ofString "count") q2, .int σ.count tc⟩, ⟨p3, .str (Str.ofString "inputs") q3, .ref a.I⟩, ⟨p4, .str (Str.ofString "outputs") q4, .ref a.U⟩, ⟨p5, .str (Str.ofString "cells") q5, .ref a.C⟩] 5), (a.I, listOf #[.ref Tp] nI), (Lc, listOf ls.toArray nL), (Gl, listOf gs.toArray nG)]) F5 (AllIn.news (r := [(h1.objs.size, _), (L + 1, oc'), (a.N, instObj 162 a.Nd), (a.Nd, dictOf [⟨p1, .str (Str.ofString "name") q1, .str x tx⟩, ⟨p2, .str (Str.ofString "count") q2, .int σ.count tc⟩, ⟨p3, .str (Str.ofString "inputs") q3, .ref a.I⟩, ⟨p4, .str (Str.ofString "outputs") q4, .ref a.U⟩, ⟨p5, .str (Str.ofString "cells") q5, .ref a.C⟩] 5), (a.I, listOf #[.ref Tp] nI), (Lc, listOf ls.toArray nL), (Gl, listOf gs.toArray nG), (I, oI)]) (by walk_at "mine allin") N5) (by exact hne) ⟨JH hJ1 (VJ.next hOn hlk htk), by walk_at "mine offr"⟩
  · intro u nx h2 tk2 hj F4 N4
    obtain ⟨vals, o, hv, hOi⟩ := JE hJ1 hj
    rw [show g0.take n = g0 from by rw [← hg.1, List.take_length]] at hv
    try k_fold
    k_steps
    rename Fr _ _ _ _ => F5
    rename News _ _ _ _ => N5
    refine ⟨forL_list F5 ?_ (by intro _; rfl)⟩
    k_steps
    rename Fr _ _ _ _ => F6
    rename News _ _ _ _ => N6
    generalize hod : dictOf [⟨p1, .str (Str.ofString "name") q1, .str x tx⟩, ⟨p2, .str (Str.ofString "count") q2, .int σ.count tc⟩, ⟨p3, .str (Str.ofString "inputs") q3, .ref a.I⟩, ⟨p4, .str (Str.ofString "outputs") q4, .ref a.U⟩, ⟨p5, .str (Str.ofString "cells") q5, .ref a.C⟩] 5 = od at N6
    obtain ⟨J2, hJ2⟩ : ∃ J2 : Nat → (Str → Option Value) → List (Addr × Obj) → Prop, J2 = fun i _ nx => VJ w h1.objs.size [(L + 1, oc'), (a.N, instObj 162 a.Nd), (a.Nd, od), (a.I, listOf #[.ref Tp] nI), (Lc, listOf ls.toArray nL), (Gl, listOf gs.toArray nG)] (runV ([0, 1] ++ g0) (σ.cells.take i)) (2 + n + i) nx := ⟨_, rfl⟩
    refine ForL.mk [Str.ofString "kind", Str.ofString "out", Str.ofString "ins", Str.ofString "param", Str.ofString "seen"] J2 (by exact hh) hgC F6 N6 (JH hJ2 (.mk _ _ hv hOi)) ?_ ?_
    · intro i v u nx h6 tk6 I oI hv hj hoI hne F6 N6
      obtain ⟨vals, o, hvs, hOi⟩ := JE hJ2 hj
      have zI : I ∉ [h1.objs.size] := nin_of hne.1
      revert v
      refine cCg.getE ?_
      intro kd out ins ct cT ctk ctb cvs cn cm hc hct hcT cin
      refine cellStep J hg hvs hc ?_
      intro hci hout hno hyes hwf hlen3 hbit htks
      have itup : IsTup h6 ct #[.str kd ctk, .int out ctb, .ref cT, .none] := ⟨_, F6.keep _ _ hct, rfl, _, rfl⟩
      refine unpackN_ F6 N6 itup (by exact hh) (by rfl) (by rfl) ?_
      intro h7 F7 N7
      try k_fold
      k_steps
      all_goals (rename Fr _ _ _ _ => F8; rename News _ _ _ _ => N8)
      have hmk : AsgMark := ⟨⟩
      refine ⟨?_⟩
      refine' comp_tupT F8 ?c1 ?c2 ?c3 ?c4 ?c5 ?_ ?c6
      case c2 => decide
      case c3 => rfl
      case c4 => decide
      case c5 => rfl
      case c6 => (intro _; rfl)
      case c1 => with_unfolding_all rfl
      k_steps
      refine TSrc.mk (by exact hh) hcT F8 N8 (by have := cin.length; omega) ?_
      intro h8'
      refine comp_noneS cvs.toArray.size trivial ?_ ?_
      · intro j hj v J1 oJ1 C1 oC1 D1 m₂ h9 tk9 E' hv1 hoC hm F9 N9 off ne
        revert v
        refine cin.atE ?_
        intro kk t9 hkk hm
        have hyk := hyes kk (List.mem_of_getElem? hkk)
        try k_fold
        k_steps
        all_goals (rename Fr _ _ _ _ => Fa; rename News _ _ _ _ => Na)
        exact TurnEnd.mk Fa Na (by walk_at "mine allin") rfl
      · intro D h9 tk9 F9 N9 off
        have zD : D ∉ [h1.objs.size] := nin_of off.1
        clear off
        try k_fold
        k_steps
        all_goals (rename Fr _ _ _ _ => Fa; rename News _ _ _ _ => Na)
        refine ⟨?_⟩
        refine' asg_tupU Fa ?d1 ?d2 ?d3 ?d4 ?d5 ?d6 ?d7 ?d8 ?d9 ?_ ?d10
        case d1 => rfl
        case d2 => with_unfolding_all rfl
        case d3 => with_unfolding_all rfl
        case d4 => decide
        case d5 => rfl
        case d6 => decide
        case d7 => rfl
        case d8 => rfl
        case d9 => rfl
        case d10 => (intro _; rfl)
        k_steps
        have Nb := AllIn.news (r := [(h1.objs.size, o), (L + 1, oc'), (a.N, instObj 162 a.Nd), (a.Nd, od), (a.I, listOf #[.ref Tp] nI), (Lc, listOf ls.toArray nL), (Gl, listOf gs.toArray nG), (I, oI)]) (by walk_at "mine allin") Na
        refine TSrc.mk (by exact hh) hcT Fa Nb (by have := cin.length; omega) ?_
        intro h8'
        refine comp_same cvs.toArray.size (fun i ys => Ints ys ((ins.take i).map (at0 vals))) trivial ?_ ?_ .nil
        · intro j ys hj hys v J1 oJ1 C1 oC1 D1 m₂ h9 tk9 E' hv1 hoC hm F9 N9 off ne
          revert v
          refine cin.atE ?_
          intro kk t9 hkk hm
          have hyk := hyes kk (List.mem_of_getElem? hkk)
          try k_fold
          k_steps
          all_goals (rename Fr _ _ _ _ => Fc; rename News _ _ _ _ => Nc)
          exact TurnEnd.mk Fc Nc (by walk_at "mine allin") (ints_take hys hkk)
        · intro ys hys D2 h9 tk9 F9 N9 off2
          have zD2 : D2 ∉ [h1.objs.size] := nin_of off2.1
          clear off2
          rw [List.size_toArray, cin.length, List.take_length] at hys
          obtain ⟨gv, hgv⟩ : ∃ gv, gv = gate kd (ins.map (at0 vals)) := ⟨_, rfl⟩
          have htk := htks gv hgv
          try dsimp only
          have hkv := kinds hwf hbit hys hgv
          clear hys hgv htks hwf hyes itup hct hc hbit
          rcases hkv with ⟨x1, tv⟩ | ⟨x2, x3, t, u, v⟩ | ⟨x2, x3, t, u, v⟩ | ⟨x1, x2, t, u, hm12⟩ | ⟨x1, x2, t, u⟩ | ⟨x1, x2, t, u⟩
          · dsimp only [LCg.lst] at N9
            try k_fold
            k_steps
            rename Fr _ _ _ _ => Fc
            rename News _ _ _ _ => Nc
            rename OppObj _ _ _ (upd _ _ _) _ => hOn
            exact Post.next (news' := [(h1.objs.size, _), (L + 1, oc'), (a.N, instObj 162 a.Nd), (a.Nd, od), (a.I, listOf #[.ref Tp] nI), (Lc, listOf ls.toArray nL), (Gl, listOf gs.toArray nG)]) Fc (AllIn.news (r := [(h1.objs.size, _), (L + 1, oc'), (a.N, instObj 162 a.Nd), (a.Nd, od), (a.I, listOf #[.ref Tp] nI), (Lc, listOf ls.toArray nL), (Gl, listOf gs.toArray nG), (I, oI)]) (by walk_at "mine allin") Nc) (by exact hne) ⟨JH hJ2 (VJ.next hOn hout htk), by walk_at "mine offs"⟩
          · dsimp only [LCg.lst] at N9
            try k_fold
            k_steps
            rename Fr _ _ _ _ => Fb
            rename News _ _ _ _ => Nb
            refine ⟨?_⟩
            refine list_item (vs := [.int 0 t, .int gv u, .int x3 v]) (i := 1) Nb (.head _) rfl (by decide) ?_
            k_steps
            rename Fr _ _ _ _ => Fc
            rename News _ _ _ _ => Nc
            rename OppObj _ _ _ (upd _ _ _) _ => hOn
            exact Post.next (news' := [(h1.objs.size, _), (L + 1, oc'), (a.N, instObj 162 a.Nd), (a.Nd, od), (a.I, listOf #[.ref Tp] nI), (Lc, listOf ls.toArray nL), (Gl, listOf gs.toArray nG)]) Fc (AllIn.news (r := [(h1.objs.size, _), (L + 1, oc'), (a.N, instObj 162 a.Nd), (a.Nd, od), (a.I, listOf #[.ref Tp] nI), (Lc, listOf ls.toArray nL), (Gl, listOf gs.toArray nG), (I, oI)]) (by walk_at "mine allin") Nc) (by exact hne) ⟨JH hJ2 (VJ.next hOn hout htk), by walk_at "mine offs"⟩
          · dsimp only [LCg.lst] at N9
            try k_fold
            k_steps
            rename Fr _ _ _ _ => Fb
            rename News _ _ _ _ => Nb
            refine ⟨?_⟩
            refine list_item (vs := [.int 1 t, .int x2 u, .int gv v]) (i := 2) Nb (.head _) rfl (by decide) ?_
            k_steps
            rename Fr _ _ _ _ => Fc
            rename News _ _ _ _ => Nc
            rename OppObj _ _ _ (upd _ _ _) _ => hOn
            exact Post.next (news' := [(h1.objs.size, _), (L + 1, oc'), (a.N, instObj 162 a.Nd), (a.Nd, od), (a.I, listOf #[.ref Tp] nI), (Lc, listOf ls.toArray nL), (Gl, listOf gs.toArray nG)]) Fc (AllIn.news (r := [(h1.objs.size, _), (L + 1, oc'), (a.N, instObj 162 a.Nd), (a.Nd, od), (a.I, listOf #[.ref Tp] nI), (Lc, listOf ls.toArray nL), (Gl, listOf gs.toArray nG), (I, oI)]) (by walk_at "mine allin") Nc) (by exact hne) ⟨JH hJ2 (VJ.next hOn hout htk), by walk_at "mine offs"⟩
          · dsimp only [LCg.lst] at N9
            try k_fold
            k_steps
            refine ⟨?_⟩
            refine mul_int ?_ hm12
            k_steps
            rename Fr _ _ _ _ => Fc
            rename News _ _ _ _ => Nc
            rename OppObj _ _ _ (upd _ _ _) _ => hOn
            exact Post.next (news' := [(h1.objs.size, _), (L + 1, oc'), (a.N, instObj 162 a.Nd), (a.Nd, od), (a.I, listOf #[.ref Tp] nI), (Lc, listOf ls.toArray nL), (Gl, listOf gs.toArray nG)]) Fc (AllIn.news (r := [(h1.objs.size, _), (L + 1, oc'), (a.N, instObj 162 a.Nd), (a.Nd, od), (a.I, listOf #[.ref Tp] nI), (Lc, listOf ls.toArray nL), (Gl, listOf gs.toArray nG), (I, oI)]) (by walk_at "mine allin") Nc) (by exact hne) ⟨JH hJ2 (VJ.next hOn hout htk), by walk_at "mine offs"⟩
          · dsimp only [LCg.lst] at N9
            try k_fold
            k_steps
            rename Fr _ _ _ _ => Fb
            rename News _ _ _ _ => Nb
            refine ⟨?_⟩
            refine max_list_N (vs := [.int x1 t, .int x2 u]) (ns := [x1, x2]) (by exact hh) Fb Nb (Nb.isList (.head _)) (.cons _ _ (.cons _ _ .nil)) (by simp) ?_
            intro hM M tM tkM FM NM hM1 hM2
            cases max_of2 hM1 hM2
            k_steps
            rename Fr _ _ _ _ => Fc
            rename News _ _ _ _ => Nc
            rename OppObj _ _ _ (upd _ _ _) _ => hOn
            exact Post.next (news' := [(h1.objs.size, _), (L + 1, oc'), (a.N, instObj 162 a.Nd), (a.Nd, od), (a.I, listOf #[.ref Tp] nI), (Lc, listOf ls.toArray nL), (Gl, listOf gs.toArray nG)]) Fc (AllIn.news (r := [(h1.objs.size, _), (L + 1, oc'), (a.N, instObj 162 a.Nd), (a.Nd, od), (a.I, listOf #[.ref Tp] nI), (Lc, listOf ls.toArray nL), (Gl, listOf gs.toArray nG), (I, oI)]) (by walk_at "mine allin") Nc) (by exact hne) ⟨JH hJ2 (VJ.next hOn hout htk), by walk_at "mine offs"⟩
          · dsimp only [LCg.lst] at N9
            try k_fold
            k_steps
            rename Fr _ _ _ _ => Fc
            rename News _ _ _ _ => Nc
            rename OppObj _ _ _ (upd _ _ _) _ => hOn
            exact Post.next (news' := [(h1.objs.size, _), (L + 1, oc'), (a.N, instObj 162 a.Nd), (a.Nd, od), (a.I, listOf #[.ref Tp] nI), (Lc, listOf ls.toArray nL), (Gl, listOf gs.toArray nG)]) Fc (AllIn.news (r := [(h1.objs.size, _), (L + 1, oc'), (a.N, instObj 162 a.Nd), (a.Nd, od), (a.I, listOf #[.ref Tp] nI), (Lc, listOf ls.toArray nL), (Gl, listOf gs.toArray nG), (I, oI)]) (by walk_at "mine allin") Nc) (by exact hne) ⟨JH hJ2 (VJ.next hOn hout htk), by walk_at "mine offs"⟩
    · intro u nx h6 tk6 hj F6 N6
      obtain ⟨vals, o, hvs, hOi⟩ := JE hJ2 hj
      try k_fold
      k_steps
      rename Fr _ _ _ _ => F8
      rename News _ _ _ _ => N8
      subst hod
      have G := grow_of (mods := []) led hg1 hLs F8 N8 (by walk_at "mine kept")
      rw [cCg.length, List.take_length] at hvs
      subst hvs
      rw [cCg.length] at hOi
      refine ret _ _ h1.objs.size _ G ?_ (newsAt N8 (.head _)) hOi
      cases q : s.heap.get? h1.objs.size with
      | none => rfl
      | some o' => exact absurd (Heap.lt_size (hg3 _ _ q)) (Nat.lt_irrefl _)))
end
-- C1
section
variable {w : World} {A : Around} {s : Shared} {Q : Result → Shared → Prop} {H0 : Heap}
    {loose : List Str} {mean : ExcName → Option Value} {mg mb : Str → Option Value}
section
variable {prog : Program} {w : World} {A : Around} {E : Value → Shared → Prop} {s : Shared} {g : Heap} {L : Addr} {T : Nat} {m : Str → Option Value} {news : List (Addr × Obj)} {vs : List Value} {n : Nat} {u : Tok} {v : Value}
theorem copy_N {Q : Value → Shared → Prop} (F : Fr g L s.heap m) (N : News g L s.heap news) (hm : (T, listOf vs.toArray n) ∈ news) (hsz : vs.length ≤ 10000)
    (h : ∀ (D : Nat) c h', Fr g L h' m → News g L h' ((D, listOf vs.toArray c) :: news) → (∀ p ∈ news, p.1 < D) → Q (.ref D) { s with heap := h' }) : wpAny (model prog w) A (call (.type "list") [.ref T]) Q E s :=
  list_copyK F N (N.isList hm) (fun D c h' F' N' l => h D c h' F' N' l) (by rw [List.size_toArray, sizeLine_eq]; omega)
theorem tuple_N {Q : Value → Shared → Prop} (F : Fr g L s.heap m) (N : News g L s.heap news) (hm : (T, listOf vs.toArray n) ∈ news) (hsz : vs.length ≤ 10000)
    (h : ∀ (D : Nat) h', Fr g L h' m → News g L h' ((D, tupOf vs 0) :: news) → (∀ p ∈ news, p.1 < D) → Q (.ref D) { s with heap := h' }) : wpAny (model prog w) A (call (.type "tuple") [.ref T]) Q E s :=
  kde_tupleOf F N (N.isList hm) (by rw [List.size_toArray]; omega) rfl (fun D h' F' N' l => h D h' F' N' l)
end
theorem Upds.same {mods : List Nat} {h' : Heap} : ∀ {l : List (Addr × Obj)}, (∀ p ∈ l, p.1 ∉ mods) → Upds mods h' l l
  | [], _ => .nil
  | _ :: _, h => .keep (h _ (.head _)) (Upds.same fun p hp => h p (.tail _ hp))
end
-- C2
section
variable {w : World} {A : Around} {s : Shared} {Q : Result → Shared → Prop} {H0 : Heap}
    {loose : List Str} {mean : ExcName → Option Value} {mg mb : Str → Option Value}
/-- the jar of the draws -/
noncomputable def JarAt (h : Heap) (Jr Sc : Nat) (b : Int) : Prop := ∃ (j0 j1 : Int) (t0 t1 : Tok) (nj : Nat), h.get? Jr = some (listOf #[.int j0 t0, .int j1 t1, .ref Sc] nj) ∧ 0 ≤ j0 ∧ 0 ≤ j1 ∧ j1 ≤ b
noncomputable def RowIn (cl : List (Addr × Obj)) (v : Value) (r : Row) : Prop := ∃ (a T : Nat) (tk : Tok) (vs : List Value) (n m : Nat), v = .ref a ∧ (a, tupOf [.ref T, .none, .str r.2.str tk] n) ∈ cl ∧ (T, tupOf vs m) ∈ cl ∧ Strs vs r.1
inductive RowsIn (cl : List (Addr × Obj)) : List Value → List Row → Prop where
  | nil : RowsIn cl [] []
  | cons {v : Value} {c : Row} {vs : List Value} {cs : List Row} : RowIn cl v c → RowsIn cl vs cs → RowsIn cl (v :: vs) (c :: cs)
theorem RowIn.mono {cl cl' : List (Addr × Obj)} {v : Value} {r : Row} (k : ∀ p ∈ cl, p ∈ cl') (x : RowIn cl v r) : RowIn cl' v r := by
  obtain ⟨a, T, tk, vs, n, m, e, h1, h2, h3⟩ := x
  exact ⟨a, T, tk, vs, n, m, e, k _ h1, k _ h2, h3⟩
theorem RowsIn.snoc {cl cl' : List (Addr × Obj)} {vs : List Value} {rows : List Row} (x : RowsIn cl vs rows) (k : ∀ p ∈ cl, p ∈ cl') {v : Value} {r : Row} (y : RowIn cl' v r) : RowsIn cl' (vs ++ [v]) (rows ++ [r]) := by
  induction x with
  | nil => exact .cons y .nil
  | cons a _ ih => exact .cons (a.mono k) ih
theorem RowsIn.at {cl : List (Addr × Obj)} {h : Heap} {vs : List Value} {rows : List Row} (x : RowsIn cl vs rows) (k : ∀ p ∈ cl, h.get? p.1 = some p.2) : RowsAt h vs rows := by
  induction x with
  | nil => exact .nil
  | cons a _ ih =>
    obtain ⟨a, T, tk, vs, n, m, e, h1, h2, h3⟩ := a
    exact .cons ⟨a, T, tk, vs, n, m, e, k _ h1, k _ h2, h3⟩ ih
theorem RowsIn.length {cl : List (Addr × Obj)} {vs : List Value} {rows : List Row} (x : RowsIn cl vs rows) : vs.length = rows.length := by
  induction x with
  | nil => rfl
  | cons _ _ ih => simp [ih]
theorem Strs.snoc {vs : List Value} {ls : List Lt} {l : Lt} {t : Tok} (x : Strs vs ls) : Strs (vs ++ [.str l.str t]) (ls ++ [l]) := by
  induction x with
  | nil => exact .cons .nil
  | cons _ ih => exact .cons ih
theorem ne_tail {g h : Heap} {L Jr : Addr} {oJ : Obj} {l tl : List (Addr × Obj)} (N : News g L h l) (hJ : (Jr, oJ) ∈ l) (t : ∀ p ∈ tl, p ∈ l) (hc : ∀ p ∈ tl, p.2.cls = .type "tuple") (hj : oJ.cls = .type "list") : ∀ p ∈ tl, p.1 ∉ [Jr] := by
  intro p hp e
  have e' := List.mem_singleton.mp e
  have h1 := (N p (t p hp)).1
  have h2 := (N _ hJ).1
  rw [e'] at h1
  have e3 : p.2 = oJ := Option.some.inj (h1.symm.trans h2)
  have := hc p hp
  rw [e3, hj] at this
  exact absurd (Value.type.inj this) (by decide)
theorem AllIn.of {l r : List (Addr × Obj)} (h : ∀ p ∈ r, p ∈ l) : AllIn l r := by
  induction r with
  | nil => exact .nil
  | cons x r ih => exact .cons (h _ (.head _)) (ih fun p hp => h p (.tail _ hp))
/-- texts that are outs -/
inductive Outs : List Value → List Ot → Prop where
  | nil : Outs [] []
  | cons {l : Ot} {t : Tok} {vs : List Value} {ls : List Ot} : Outs vs ls → Outs (.str l.str t :: vs) (l :: ls)
theorem Outs.length {vs : List Value} {ls : List Ot} (x : Outs vs ls) : vs.length = ls.length := by
  induction x with
  | nil => rfl
  | cons _ ih => simp [ih]
theorem Outs.at {vs : List Value} {ls : List Ot} (x : Outs vs ls) : ∀ {i : Nat} {l : Ot}, ls[i]? = some l → ∃ t, vs[i]? = some (.str l.str t) := by
  induction x with
  | nil => intro i l h; simp at h
  | cons _ ih =>
    intro i l h
    cases i with
    | zero => simp at h; subst h; exact ⟨_, rfl⟩
    | succ i => simp at h ⊢; exact ih h
theorem menuL {prog : Program} {A : Around} {E : Value → Shared → Prop} {s : Shared} {g : Heap} {L : Addr} {news : List (Addr × Obj)} {value slice : PySem.Expr} {T n : Nat} {vs : List Value} {ls : List Lt} {k : Int} {u : Tok} {Q : Value → Shared → Prop} (N : News g L s.heap news) (hm : (T, listOf vs.toArray n) ∈ news) (ix : Strs vs ls) (h0 : 0 ≤ k) (h1 : k < ls.length) (hl : ls.length ≤ 1000000)
    (h : ∀ l t, Q (.str (Lt.str l) t) s)
    (hs : subscripted slice false (.ref T) (.int k u) = operate [.ref T, .int k u] (getItem (.ref T) (.int k u)) := by with_unfolding_all rfl) :
    wpAny (model prog w) A (subscriptTail value slice (.ref T) (.int k u)) Q E s := by
  obtain ⟨i, rfl⟩ := Int.eq_ofNat_of_zero_le h0
  have hi : i < ls.length := by omega
  obtain ⟨t, ht⟩ := ix.at (List.getElem?_eq_getElem hi)
  exact list_item N hm ht (by omega) (h _ t) hs
theorem menuO {prog : Program} {A : Around} {E : Value → Shared → Prop} {s : Shared} {g : Heap} {L : Addr} {news : List (Addr × Obj)} {value slice : PySem.Expr} {T n : Nat} {vs : List Value} {ls : List Ot} {k : Int} {u : Tok} {Q : Value → Shared → Prop} (N : News g L s.heap news) (hm : (T, listOf vs.toArray n) ∈ news) (ix : Outs vs ls) (h0 : 0 ≤ k) (h1 : k < ls.length) (hl : ls.length ≤ 1000000)
    (h : ∀ l t, Q (.str (Ot.str l) t) s)
    (hs : subscripted slice false (.ref T) (.int k u) = operate [.ref T, .int k u] (getItem (.ref T) (.int k u)) := by with_unfolding_all rfl) :
    wpAny (model prog w) A (subscriptTail value slice (.ref T) (.int k u)) Q E s := by
  obtain ⟨i, rfl⟩ := Int.eq_ofNat_of_zero_le h0
  have hi : i < ls.length := by omega
  obtain ⟨t, ht⟩ := ix.at (List.getElem?_eq_getElem hi)
  exact list_item N hm ht (by omega) (h _ t) hs
inductive OffD (d : Nat) : List (Addr × Obj) → Prop where
  | nil : OffD d []
  | tail {r : List (Addr × Obj)} (h : ∀ p ∈ r, p.1 ∉ [d]) : OffD d r
  | cons {a : Nat} {o : Obj} {r : List (Addr × Obj)} (h : a ≠ d) (x : OffD d r) : OffD d ((a, o) :: r)
theorem OffD.all {d : Nat} {l : List (Addr × Obj)} (x : OffD d l) : ∀ p ∈ l, p.1 ≠ d := by
  induction x with
  | nil => intro p hp; cases hp
  | tail h => intro p hp e; exact h p hp (List.mem_singleton.mpr e)
  | cons h _ ih => intro p hp; rcases List.mem_cons.mp hp with rfl | hp; exact h; exact ih p hp
theorem Upd.tl {d a : Nat} {o o' q : Obj} {r r' : List (Addr × Obj)} (h : a ≠ d) (x : Upd d o o' r r') : Upd d o o' ((a, q) :: r) ((a, q) :: r') := .tail h x
theorem AllIn.tailI {l cl : List (Addr × Obj)} {q : Addr × Obj} (h : ∀ p ∈ cl, p ∈ l) (h2 : q ∈ l) : AllIn l (cl ++ [q]) :=
  AllIn.of fun p hp => (List.mem_append.mp hp).elim (h p) (fun e => by rw [List.mem_singleton.mp e]; exact h2)
end
-- F1
section
variable {w : World} {A : Around} {s : Shared} {Q : Result → Shared → Prop} {H0 : Heap}
    {loose : List Str} {mean : ExcName → Option Value} {mg mb : Str → Option Value}
section
variable {prog : Program} {w : World} {A : Around} {E : Value → Shared → Prop} {s : Shared} {env : Env} {g : Heap} {target : PySem.Expr} {body : List Stmt} {Q : Flow → Shared → Prop}

noncomputable def ForR (prog : Program) (w : World) (A : Around) (g : Heap) (env : Env) (target : PySem.Expr) (body : List Stmt) (Q : Flow → Shared → Prop) (xv : Value) (s₁ : Shared) : Prop :=
  ∃ (r : Nat) (b : Int) (t0 u0 v0 : Tok) (n : Nat) (news : List (Addr × Obj)) (m₀ : Str → Option Value) (stored : List Str) (J : Nat → (Str → Option Value) → List (Addr × Obj) → Prop),
      xv = .ref r ∧ A.handled = none ∧ IsRange s₁.heap r 0 b 1 t0 u0 v0 ∧ b = (n : Int) ∧ n ≤ 1000000 ∧ Fr g env.locals s₁.heap m₀ ∧ News g env.locals s₁.heap news ∧ J 0 m₀ news ∧
      (∀ s₂ : Shared, (∃ h, s₂ = { s₁ with heap := h }) → ∀ (i : Nat) t (u : Str → Option Value) news₁ h tk (I : Nat) oI, i < n → J i u news₁ → oI.cls = .type "range_iterator" → AllNe I news₁ → Fr g env.locals h (fun y => if stored.contains y then u y else m₀ y) → News g env.locals h (news₁ ++ [(I, oI)]) →
        wpAny (model prog w) A (assign target env (.int (i : Int) t)) (fun _ s₃ => wpAny (model prog w) A (execs body env) (Post g env.locals (fun m' nx => J (i + 1) m' nx ∧ ∀ y, stored.contains y = false → m' y = m₀ y) I oI s₂ Q) (fun _ _ => False) s₃) (fun _ _ => False) { s₂ with heap := h, toks := tk }) ∧
      (∀ (u : Str → Option Value) news₁ h tk, J n u news₁ → Fr g env.locals h (fun y => if stored.contains y then u y else m₀ y) → News g env.locals h news₁ → Q .next { s₁ with heap := h, toks := tk })
theorem ForR.mk {s₁ : Shared} {r n : Nat} {b : Int} {t0 u0 v0 : Tok} {news : List (Addr × Obj)} {m₀ : Str → Option Value} (stored : List Str) (J : Nat → (Str → Option Value) → List (Addr × Obj) → Prop) (hh : A.handled = none) (hr : IsRange s₁.heap r 0 b 1 t0 u0 v0) (hb : b = (n : Int)) (hn : n ≤ 1000000) (F : Fr g env.locals s₁.heap m₀) (N : News g env.locals s₁.heap news) (h0 : J 0 m₀ news)
    (turn : ∀ (i : Nat) t (u : Str → Option Value) news₁ h tk (I : Nat) oI, i < n → J i u news₁ → oI.cls = .type "range_iterator" → AllNe I news₁ → Fr g env.locals h (fun y => if stored.contains y then u y else m₀ y) → News g env.locals h (news₁ ++ [(I, oI)]) →
        wpAny (model prog w) A (assign target env (.int (i : Int) t)) (fun _ s₃ => wpAny (model prog w) A (execs body env) (Post g env.locals (fun m' nx => J (i + 1) m' nx ∧ ∀ y, stored.contains y = false → m' y = m₀ y) I oI s₁ Q) (fun _ _ => False) s₃) (fun _ _ => False) { s₁ with heap := h, toks := tk })
    (done : ∀ (u : Str → Option Value) news₁ h tk, J n u news₁ → Fr g env.locals h (fun y => if stored.contains y then u y else m₀ y) → News g env.locals h news₁ → Q .next { s₁ with heap := h, toks := tk }) : ForR prog w A g env target body Q (.ref r) s₁ :=
  ⟨r, b, t0, u0, v0, n, news, m₀, stored, J, rfl, hh, hr, hb, hn, F, N, h0, fun s₂ e i v u n1 h tk I oI a b c d f n => by obtain ⟨hx, rfl⟩ := e; exact turn i v u n1 h tk I oI a b c d f n, done⟩
/-- for target in a range -/
theorem forR_range {pos : Pos} {iter : PySem.Expr} {m : Str → Option Value} (_F : Fr g env.locals s.heap m)
    (h : wpAny (model prog w) A (eval iter env) (ForR prog w A g env target body Q) (fun _ _ => False) s)
    (hs : ∀ x, foldedSetIterable iter env x = pure x) : wpAny (model prog w) A (exec (.For target iter body [] pos) env) Q (fun _ _ => False) s := by
  refine wpAny_For (wpAny_mono h (fun xv s₁ h₁ => ?_) fun _ _ e => e) hs
  obtain ⟨r, b, t0, u0, v0, n, news, m₀, stored, J, rfl, hh, hr, rfl, hn, F, N, h0, turn, done⟩ := h₁
  refine wpAny_pyIter_range hr (range_small n hn) ?_
  have W : Walks prog w A s₁.heap.objs.size [s₁.heap.objs.size] [s₁.heap.objs.size] n (fun i v => ∃ t, v = .int (0 + i * 1) t)
      (fun i h => IsRangeIter h s₁.heap.objs.size (0 + (i : Nat) * 1) ((n : Int) - (i : Nat)) 1) := Walks.range hh _ 0 1 n
  refine codeAny_mono (loopT_one (R := fun r s' => match r with | .ok f => Q f s' | .error _ => False) (C := fun o => o.cls = .type "range_iterator") (fun i m nx => J i m nx ∧ ∀ y, stored.contains y = false → m y = m₀ y) W ?_ (next_is_new F) (fun b hb => .inl (List.mem_singleton.mp hb)) (allNe_of_mem fun p hp => Nat.ne_of_lt (Heap.lt_size (N p hp).1))
    (by show IsRangeIter _ _ _ _ _; rw [range_size]; simpa using Heap.get?_push_size _ rfl) (fun i h st => ⟨_, st, rfl⟩) (fun i s' v Q' st hq => ?_) (F.push _) (fun p hp => ⟨Heap.get?_push_of_some _ (N p hp).1, (N p hp).2⟩) ⟨h0, fun _ _ => rfl⟩ ?_ ?_) (fun r s' x => by cases r with | ok f => exact x | error e => exact x.elim)
  · intro hm
    exact absurd F.ns.lt ((List.mem_singleton.mp hm) ▸ Nat.lt_irrefl _)
  · exact goOwn st rfl rfl (by simp) hq
  · rintro i v m₁ news₁ h tk oI hi ⟨t, rfl⟩ ⟨hJ, hm⟩ hc hne F₁ N₁
    have e : (0 + (i : Int) * 1) = (i : Int) := by omega
    rw [e]
    rw [map_st hm] at F₁
    exact turn _ ⟨_, rfl⟩ i t m₁ news₁ h tk _ oI hi hJ hc hne F₁ N₁
  · rintro m₁ news₁ h tk ⟨hJ, hm⟩ F₁ N₁
    rw [map_st hm] at F₁
    exact done m₁ news₁ h tk hJ F₁ N₁
end
end
-- F2
section
variable {w : World} {A : Around} {s : Shared} {Q : Result → Shared → Prop} {H0 : Heap}
    {loose : List Str} {mean : ExcName → Option Value} {mg mb : Str → Option Value}
theorem stepT {mods : List Nat} {g h h' : Heap} {L : Addr} {m : Str → Option Value} {l0 l l' cl : List (Addr × Obj)} {P : Prop} (c : Cut cl l0 l) (u : Upds mods h' l l') (hm : Has l mods) (G : Grow mods h h') (F : Fr g L h m) (N : News g L h l0)
    (k : ∀ cl', Fr g L h' m → News g L h' (l' ++ cl') → Lift g h' cl' → (∀ p ∈ cl', IsT p.2) → P) : P := by
  refine stepN u hm G F (c.news N) fun F' N' => ?_
  obtain ⟨cl', t, N2, q⟩ := cloud F' N'
  exact k cl' F' N2 q t
theorem ne_cell {g h : Heap} {L c : Addr} {oc : Obj} {v : Option Value} {l tl : List (Addr × Obj)} (N : News g L h l) (hc : (c, oc) ∈ l) (hd : oc.data = .cell v) (t : ∀ p ∈ tl, p ∈ l) (ht : ∀ p ∈ tl, IsT p.2) : ∀ p ∈ tl, p.1 ∉ [c] := by
  intro p hp e
  have e' := List.mem_singleton.mp e
  have h1 := (N p (t p hp)).1
  have h2 := (N _ hc).1
  rw [e'] at h1
  have e3 : p.2 = oc := Option.some.inj (h1.symm.trans h2)
  obtain ⟨_, xs, n, hx⟩ := ht p hp
  rw [e3, hd] at hx
  cases hx
section
variable {prog : Program} {w : World} {A : Around} {E : Value → Shared → Prop} {s : Shared} {g : Heap} {L : Addr} {m : Str → Option Value} {news : List (Addr × Obj)}
theorem slice_fromN {value slice : PySem.Expr} {l n : Nat} {vs : List Value} {u : Tok} {k : Nat} {Q : Value → Shared → Prop} (F : Fr g L s.heap m) (N : News g L s.heap news) (hm : (l, listOf vs.toArray n) ∈ news) (hsz : vs.length ≤ 10000)
    (h : ∀ (D : Nat) h', Fr g L h' m → News g L h' ((D, listOf (vs.drop k).toArray 0) :: news) → (∀ p ∈ news, p.1 < D) → Q (.ref D) { s with heap := h' })
    (hs : subscripted slice false (.ref l) (.ref s.heap.objs.size) = operate [.ref s.heap.objs.size, .ref l] (getItem (.ref l) (.ref s.heap.objs.size)) := by with_unfolding_all rfl)
    (ht : ∀ r, letTemporaryGo value (.ref l) r = pure () := by intro _; with_unfolding_all rfl) :
    wpAny (model prog w) A (subscriptTail value slice (.ref l) (.ref s.heap.objs.size)) Q E { s with heap := s.heap.push { cls := .type "slice", data := .fields #[.int (k : Int) u, .none, .none] } } := by
  refine slice_list F N (N.isList hm) (.int _ _) .none (fun h' F' N' => ?_) hs ht (by rw [List.size_toArray, sizeLine_eq]; omega)
  rw [slicePick_from'] at N'
  refine h _ h' F' ?_ (fun p hp => Nat.lt_succ_of_lt (Heap.lt_size (N p hp).1))
  simpa using N'
end
theorem Ints.ofAre {vs : List Value} {ks : List Int} (x : IntsAre vs ks) : Ints vs ks := by
  induction x with
  | nil => exact .nil
  | cons _ _ _ ih => exact .cons ih
end
-- S0
section
variable {w : World} {A : Around} {s : Shared} {Q : Result → Shared → Prop} {H0 : Heap}
    {loose : List Str} {mean : ExcName → Option Value} {mg mb : Str → Option Value}
theorem allNe_notin {I : Nat} {l : List (Addr × Obj)} (x : AllNe I l) {r : List Nat} (h : Has l r) : I ∉ r := by
  induction h with
  | nil => simp
  | cons hm _ ih =>
    intro e
    rcases List.mem_cons.mp e with rfl | e
    · exact allNe_mem x _ hm rfl
    · exact ih e
theorem Ints.drop {vs : List Value} {ks : List Int} (x : Ints vs ks) (n : Nat) : Ints (vs.drop n) (ks.drop n) := by
  induction x generalizing n with
  | nil => simp; exact .nil
  | cons x ih => cases n with
    | zero => exact .cons x
    | succ n => exact ih n
theorem Ints.append {vs ws : List Value} {ks ls : List Int} (x : Ints vs ks) (y : Ints ws ls) : Ints (vs ++ ws) (ks ++ ls) := by
  induction x with
  | nil => exact y
  | cons _ ih => exact .cons ih
theorem ltT {D E : Nat} {l : List (Addr × Obj)} (h : ∀ p ∈ l, p.1 < D) (e : D < E) : ∀ p ∈ l, p.1 < E := fun p hp => Nat.lt_trans (h p hp) e
theorem twoCells {P : Prop} {cells hid : List (Addr × Obj)} {c c' : Addr} {d d' : Data} {g h' : Heap} {L : Addr} (h : ∃ o o', cells = [(c, o), (c', o')] ∧ o.data = d ∧ o'.data = d') (N : News g L h' (cells ++ hid)) (k : ∀ o o', o.data = d → o'.data = d' → News g L h' ((c, o) :: (c', o') :: hid) → P) : P := by
  obtain ⟨o, o', rfl, e, e'⟩ := h
  exact k o o' e e' N
theorem News.swap {g h : Heap} {L : Addr} {l cl : List (Addr × Obj)} {x : Addr × Obj} (N : News g L h ((l ++ cl) ++ [x])) : News g L h (l ++ x :: cl) := fun p hp => N p (by
  simp only [List.mem_append, List.mem_cons, List.not_mem_nil, or_false] at hp ⊢
  rcases hp with h | h | h
  · exact .inl (.inl h)
  · exact .inr h
  · exact .inl (.inr h))
theorem News.unswap {g h : Heap} {L : Addr} {l cl : List (Addr × Obj)} {x : Addr × Obj} (N : News g L h (l ++ x :: cl)) : News g L h ((l ++ cl) ++ [x]) := fun p hp => N p (by
  simp only [List.mem_append, List.mem_cons, List.not_mem_nil, or_false] at hp ⊢
  rcases hp with (h | h) | h
  · exact .inl h
  · exact .inr (.inr h)
  · exact .inr (.inl h))
end
-- S1
section
variable {w : World} {A : Around} {s : Shared} {Q : Result → Shared → Prop} {H0 : Heap}
    {loose : List Str} {mean : ExcName → Option Value} {mg mb : Str → Option Value}
section
variable {prog : Program} {w : World} {A : Around} {E : Value → Shared → Prop} {s : Shared} {g : Heap} {L : Addr} {m : Str → Option Value} {news : List (Addr × Obj)}
theorem subTail_opsT {value slice : PySem.Expr} {o i : Value} {T id : String} {ops : List Value} {Q : Value → Shared → Prop} (hT : s.TypeIs o T)
    (hl : typeLookup (.type T) "__getitem__" = pure (some (.builtin id))) (h : wpAny (model prog w) A (getItem o i) Q E s)
    (hs : subscripted slice false o i = operate ops (getItem o i)) :
    wpAny (model prog w) A (subscriptTail value slice o i) Q E s := by
  unfold subscriptTail
  refine wpAny_bind ?_
  rw [getitemInPython_of_ne hT.not_modules]
  refine wpAny_bind (wpAny_specialOf hT hl ?_)
  have fin : wpAny (model prog w) A (subscripted slice false o i) (fun r s₃ => wpAny (model prog w) A (letTemporaryGo value o r >>= fun _ => pure r) Q E s₃) E s := by
    rw [hs]
    exact wpAny_operating (wpAny_mono h (fun r s₃ h₃ => wpAny_bind (wpAny_letTemporaryGo (wpAny_pure h₃))) fun _ _ x => x)
  first
    | exact wpAny_pure (wpAny_bind fin)
    | exact wpAny_bind (wpAny_pure (wpAny_bind fin))
    | exact wpAny_bind fin
theorem slice_uptoT {value slice : PySem.Expr} {l n : Nat} {vs : List Value} {u : Tok} {k : Nat} {Q : Value → Shared → Prop} (F : Fr g L s.heap m) (N : News g L s.heap news) (hm : (l, listOf vs.toArray n) ∈ news) (hsz : vs.length ≤ 10000)
    (h : ∀ (D : Nat) h', Fr g L h' m → News g L h' ((D, listOf (vs.take k).toArray 0) :: news) → (∀ p ∈ news, p.1 < D) → Q (.ref D) { s with heap := h' })
    (hs : subscripted slice false (.ref l) (.ref s.heap.objs.size) = operate [.ref s.heap.objs.size, .ref l] (getItem (.ref l) (.ref s.heap.objs.size)) := by with_unfolding_all rfl) :
    wpAny (model prog w) A (subscriptTail value slice (.ref l) (.ref s.heap.objs.size)) Q E { s with heap := s.heap.push { cls := .type "slice", data := .fields #[.none, .int (k : Int) u, .none] } } := by
  have hl := N.isList hm
  refine subTail_opsT (Heap.IsList.typeIs (s := { s with heap := s.heap.push { cls := .type "slice", data := .fields #[.none, .int (k : Int) u, .none] } }) (hl.push _)) list_getitem_lookup
    (wpAny_getItem_list_slice (hl.push _) (Heap.IsSliceOf.new ..) .none (.int _ _) .none (by simp) ?_ (by rw [List.size_toArray, sizeLine_eq]; omega)) hs
  have N1 := News.push (F.push { cls := .type "slice", data := .fields #[.none, .int (k : Int) u, .none] }) (N.grown fun _ _ e => Heap.get?_push_of_some _ e) { cls := .type "list", data := .seq (slicePick vs.toArray none (some (k : Int)) none) }
  rw [Heap.size_push] at N1
  show Q (.ref (s.heap.push _).objs.size) _
  rw [Heap.size_push]
  rw [slicePick_upto'] at N1 ⊢
  refine h _ _ ((F.push _).push _) ?_ (fun p hp => Nat.lt_succ_of_lt (Heap.lt_size (N p hp).1))
  simpa using N1
end
end
-- S2
section
variable {w : World} {A : Around} {s : Shared} {Q : Result → Shared → Prop} {H0 : Heap}
    {loose : List Str} {mean : ExcName → Option Value} {mg mb : Str → Option Value}
theorem Ints.take {vs : List Value} {ks : List Int} (x : Ints vs ks) (n : Nat) : Ints (vs.take n) (ks.take n) := by
  induction x generalizing n with
  | nil => simp; exact .nil
  | cons _ ih => cases n with
    | zero => exact .nil
    | succ n => exact .cons (ih n)
/-- the state of a netlist, read off a part of the ledger -/
noncomputable def StIn (w : World) (g : Heap) (a : GA) (σ : NS) (l : List (Addr × Obj)) : Prop := ∀ h', (∀ b o, g.get? b = some o → h'.get? b = some o) → (∀ p ∈ l, h'.get? p.1 = some p.2) → St w g a h' σ
theorem StIn.at {g h : Heap} {L : Addr} {m : Str → Option Value} {a : GA} {σ : NS} {l l' : List (Addr × Obj)} (x : StIn w g a σ l) (F : Fr g L h m) (N : News g L h l') (s : ∀ p ∈ l, p ∈ l') : St w g a h σ :=
  x h F.keep fun p hp => (N p (s p hp)).1
noncomputable abbrev netL (a : GA) (oD oC oG oM oO : Obj) (cl : List (Addr × Obj)) : List (Addr × Obj) := (a.N, instObj 162 a.Nd) :: (a.Nd, oD) :: (a.C, oC) :: (a.G, instObj 239 a.Gd) :: (a.Gd, oG) :: (a.M, oM) :: (a.O, oO) :: cl
theorem StIn.of {H0 g h : Heap} {a : GA} {σ : NS} {oD oC oG oM oO : Obj} {cl : List (Addr × Obj)} (Z : St w H0 a h σ) (own : a.Own g) (lift : Lift g h cl) (eD : h.get? a.Nd = some oD) (eC : h.get? a.C = some oC) (eG : h.get? a.Gd = some oG) (eM : h.get? a.M = some oM) (eO : h.get? a.O = some oO) :
    StIn w g a σ (netL a oD oC oG oM oO cl) := by
  intro h' k N
  have t : TupIn h h' := lift h' (fun b o e _ => k b o e) fun p hp => N p (by simp [netL, hp])
  refine (Z.lift (h' := h') t fun b o hb e => ?_).own' own
  simp only [List.mem_cons, List.not_mem_nil, or_false] at hb
  rcases hb with rfl | rfl | rfl | rfl | rfl | rfl | rfl
  · rw [Z.hN] at e; cases e; exact N (a.N, _) (by simp [netL])
  · rw [eD] at e; cases e; exact N (a.Nd, _) (by simp [netL])
  · rw [eC] at e; cases e; exact N (a.C, _) (by simp [netL])
  · rw [Z.hG] at e; cases e; exact N (a.G, _) (by simp [netL])
  · rw [eG] at e; cases e; exact N (a.Gd, _) (by simp [netL])
  · rw [eM] at e; cases e; exact N (a.M, _) (by simp [netL])
  · rw [eO] at e; cases e; exact N (a.O, _) (by simp [netL])
/-- a netlist and its gates as they are made -/
theorem St.first {H0 h : Heap} {a : GA} {n : Nat} {oD oG : Obj} {nC : Nat} (ch : a.Chain) (own : a.Own H0) (hN : h.get? a.N = some (instObj 162 a.Nd)) (eD : h.get? a.Nd = some oD) (dD : NetD ((2 + n : Nat) : Int) a.I a.U a.C oD) (eC : h.get? a.C = some (listOf #[] nC))
    (hG : h.get? a.G = some (instObj 239 a.Gd)) (eG : h.get? a.Gd = some oG) (dG : GateD a.N a.M a.O oG) (eM : ∃ o, h.get? a.M = some o ∧ MadeObj PySem.Challenge.rw_on0108_01.row.prog w h o (fun _ => none) 0) (eO : ∃ o, h.get? a.O = some o ∧ OppObj PySem.Challenge.rw_on0108_01.row.prog w o (fun _ => none) 0) (hn : n ≤ 8) :
    St w H0 a h ⟨((2 + n : Nat) : Int), [], fun _ => none, fun _ => none⟩ :=
  ⟨ch, own, hN, ⟨oD, eD, dD⟩, ⟨[], nC, eC, .nil⟩, hG, ⟨oG, eG, dG⟩, eM, eO, by show (2 : Int) ≤ ((2 + n : Nat) : Int); omega, by show ((2 + n : Nat) : Int) ≤ 10 + ((0 : Nat) : Int); omega⟩
theorem Inv.first (n : Nat) : Inv n ⟨((2 + n : Nat) : Int), [], fun _ => none, fun _ => none⟩ :=
  ⟨by show ((2 + n : Nat) : Int) = 2 + (n : Int) + ((0 : Nat) : Int); omega, fun j c h => (by simp at h), fun a b h => (by cases h), fun k i r h => (by cases h)⟩
theorem slice_uptoI {prog : Program} {A : Around} {E : Value → Shared → Prop} {s : Shared} {g : Heap} {L : Addr} {m : Str → Option Value} {news : List (Addr × Obj)} {value slice : PySem.Expr} {l n : Nat} {vs : List Value} {xs : List Int} {u : Tok} {k : Nat} {Q : Value → Shared → Prop} (F : Fr g L s.heap m) (N : News g L s.heap news) (hm : (l, listOf vs.toArray n) ∈ news) (ix : Ints vs xs) (hsz : vs.length ≤ 10000)
    (h : ∀ (D : Nat) h' ws, Ints ws (xs.take k) → Fr g L h' m → News g L h' ((D, listOf ws.toArray 0) :: news) → (∀ p ∈ news, p.1 < D) → Q (.ref D) { s with heap := h' })
    (hs : subscripted slice false (.ref l) (.ref s.heap.objs.size) = operate [.ref s.heap.objs.size, .ref l] (getItem (.ref l) (.ref s.heap.objs.size)) := by with_unfolding_all rfl) :
    wpAny (model prog w) A (subscriptTail value slice (.ref l) (.ref s.heap.objs.size)) Q E { s with heap := s.heap.push { cls := .type "slice", data := .fields #[.none, .int (k : Int) u, .none] } } :=
  slice_uptoT F N hm hsz (fun D h' F' N' l => h D h' _ (ix.take k) F' N' l) hs
end
-- S3
section
variable {w : World} {A : Around} {s : Shared} {Q : Result → Shared → Prop} {H0 : Heap}
    {loose : List Str} {mean : ExcName → Option Value} {mg mb : Str → Option Value}
theorem StIn.now {g h : Heap} {L : Addr} {m : Str → Option Value} {a : GA} {σ : NS} {l : List (Addr × Obj)} (x : StIn w g a σ l) (F : Fr g L h m) (N : News g L h l) : St w g a h σ :=
  x h F.keep fun p hp => (N p hp).1
theorem allNe_tup {g h : Heap} {L I : Addr} {oI : Obj} {l tl : List (Addr × Obj)} (N : News g L h l) (hI : (I, oI) ∈ l) (t : ∀ p ∈ tl, p ∈ l) (ht : ∀ p ∈ tl, IsT p.2) (hc : oI.cls = .type "range_iterator") : AllNe I tl :=
  allNe_of_mem fun p hp e => by
    have h1 := (N p (t p hp)).1
    have h2 := (N _ hI).1
    have e' : p.1 = I := e
    rw [e'] at h1
    have e3 : p.2 = oI := Option.some.inj (h1.symm.trans h2)
    have := (ht p hp).1
    rw [e3, hc] at this
    exact absurd (Value.type.inj this) (by decide)
theorem allNe_app {a : Nat} {l cl : List (Addr × Obj)} (x : AllNe a l) (y : AllNe a cl) : AllNe a (l ++ cl) := by
  induction l with
  | nil => exact y
  | cons p r ih => exact ⟨x.1, ih x.2⟩
theorem allNe_left {a : Nat} {l cl : List (Addr × Obj)} (x : AllNe a (l ++ cl)) : AllNe a l := by
  induction l with
  | nil => trivial
  | cons p r ih => exact ⟨x.1, ih x.2⟩
theorem ite_both {c : Prop} [Decidable c] {a b : Prop} (x : a) (y : b) : if c then a else b := by split; exact x; exact y
theorem nin_lo {a : GA} (c : a.Chain) {x : Nat} (h : x < a.Nd) : x ∉ [a.Nd, a.C, a.M, a.O] := by
  obtain ⟨c1, c2, c3, c4, c5, c6, c7, c8, c9⟩ := c
  have a1 := Nat.lt_trans h (Nat.lt_trans c1 (Nat.lt_trans c2 (Nat.lt_trans c3 c4)))
  have b1 := Nat.lt_trans a1 (Nat.lt_trans c5 (Nat.lt_trans c6 (Nat.lt_trans c7 c8)))
  exact ninQ4 (Nat.ne_of_lt h) (Nat.ne_of_lt a1) (Nat.ne_of_lt b1) (Nat.ne_of_lt (Nat.lt_trans b1 c9))
theorem nin_m1 {a : GA} (c : a.Chain) {x : Nat} (h : a.Nd < x) (h2 : x < a.C) : x ∉ [a.Nd, a.C, a.M, a.O] := by
  obtain ⟨c1, c2, c3, c4, c5, c6, c7, c8, c9⟩ := c
  have b1 := Nat.lt_trans h2 (Nat.lt_trans c5 (Nat.lt_trans c6 (Nat.lt_trans c7 c8)))
  exact ninQ4 (Nat.ne_of_gt h) (Nat.ne_of_lt h2) (Nat.ne_of_lt b1) (Nat.ne_of_lt (Nat.lt_trans b1 c9))
theorem nin_m2 {a : GA} (c : a.Chain) {x : Nat} (h : a.C < x) (h2 : x < a.M) : x ∉ [a.Nd, a.C, a.M, a.O] := by
  obtain ⟨c1, c2, c3, c4, c5, c6, c7, c8, c9⟩ := c
  exact ninQ4 (Nat.ne_of_gt (Nat.lt_trans (Nat.lt_trans c1 (Nat.lt_trans c2 (Nat.lt_trans c3 c4))) h)) (Nat.ne_of_gt h) (Nat.ne_of_lt h2) (Nat.ne_of_lt (Nat.lt_trans h2 c9))
theorem nin_hi {a : GA} (c : a.Chain) {x : Nat} (h : a.O < x) : x ∉ [a.Nd, a.C, a.M, a.O] := by
  obtain ⟨c1, c2, c3, c4, c5, c6, c7, c8, c9⟩ := c
  have m1 := Nat.lt_trans c9 h
  have k1 := Nat.lt_trans (Nat.lt_trans c5 (Nat.lt_trans c6 (Nat.lt_trans c7 c8))) m1
  exact ninQ4 (Nat.ne_of_gt (Nat.lt_trans (Nat.lt_trans c1 (Nat.lt_trans c2 (Nat.lt_trans c3 c4))) k1)) (Nat.ne_of_gt k1) (Nat.ne_of_gt m1) (Nat.ne_of_gt h)
theorem GateD.lit {N M O : Addr} {g1 g2 g3 : Int} {v1 v2 v3 : Tok} : GateD N M O (dictOf [⟨g1, .str (Str.ofString "netlist") v1, .ref N⟩, ⟨g2, .str (Str.ofString "made") v2, .ref M⟩, ⟨g3, .str (Str.ofString "opposite") v3, .ref O⟩] 3) := ⟨_, _, _, _, _, _, rfl⟩
inductive LJ (w : World) (g : Heap) (IL cc Jr Sc D9 Lc Tp : Nat) (oc oS o9 oL oT oI oGd : Obj) (a : GA) (size i : Nat) : List (Addr × Obj) → Prop where
  | mk (σ : NS) (nx : Nat) (xs : List Value) (insI : List Int) (j0 j1 : Int) (t0 t1 : Tok) (nj : Nat) (oD oC oM oO : Obj) (cl : List (Addr × Obj)) (h0 : 0 ≤ j0) (h1 : 0 ≤ j1) (h2 : j1 ≤ 1 + 2 * (i : Int)) (hxs : Ints xs insI) (hil : insI.length = i) (hok : ∀ k ∈ insI, σ.ok k) (hJ : Inv size σ)
      (hst : StIn w g a σ ((a.N, instObj 162 a.Nd) :: (a.Nd, oD) :: (a.C, oC) :: (a.G, instObj 239 a.Gd) :: (a.Gd, oGd) :: (a.M, oM) :: (a.O, oO) :: cl)) (hcl : σ.cells.length ≤ i) (hct : ∀ p ∈ cl, IsT p.2) :
    LJ w g IL cc Jr Sc D9 Lc Tp oc oS o9 oL oT oI oGd a size i ((IL, listOf xs.toArray nx) :: (cc, oc) :: (Jr, listOf #[.int j0 t0, .int j1 t1, .ref Sc] nj) :: (Sc, oS) :: (D9, o9) :: (Lc, oL) :: (Tp, oT) :: (a.I, oI) :: (a.N, instObj 162 a.Nd) :: (a.Nd, oD) :: (a.C, oC) :: (a.G, instObj 239 a.Gd) :: (a.Gd, oGd) :: (a.M, oM) :: (a.O, oO) :: cl)
inductive CJ (IL cc Jr Sc : Nat) (oI oc oS : Obj) (rest : List (Addr × Obj)) (k : Nat) (ys : List Value) : List (Addr × Obj) → Prop where
  | mk (bs : List Int) (j0 j1 : Int) (t0 t1 : Tok) (nj : Nat) (h0 : 0 ≤ j0) (h1 : 0 ≤ j1) (h2 : j1 ≤ 130 + (k : Int)) (hys : Ints ys bs) (hln : bs.length = k) (hbb : ∀ b ∈ bs, Bit b) :
    CJ IL cc Jr Sc oI oc oS rest k ys ((IL, oI) :: (cc, oc) :: (Jr, listOf #[.int j0 t0, .int j1 t1, .ref Sc] nj) :: (Sc, oS) :: rest)
theorem all7 {P : Nat → Prop} {x1 x2 x3 x4 x5 x6 x7 : Nat} (h1 : P x1) (h2 : P x2) (h3 : P x3) (h4 : P x4) (h5 : P x5) (h6 : P x6) (h7 : P x7) : ∀ b ∈ [x1, x2, x3, x4, x5, x6, x7], P b := by
  intro b hb
  simp only [List.mem_cons, List.not_mem_nil, or_false] at hb
  rcases hb with rfl | rfl | rfl | rfl | rfl | rfl | rfl <;> assumption
end
local macro_rules | `(tactic| k_ne) => `(tactic| ((try dsimp only); first | exact ne1 (by with_reducible assumption) | exact Ne.symm (ne1 (by with_reducible assumption)) | exact Nat.ne_of_lt (by with_reducible assumption) | exact Nat.ne_of_gt (by with_reducible assumption) | exact ltNe (by with_reducible assumption) (by k_mem) | exact Ne.symm (ltNe (by with_reducible assumption) (by k_mem)) | exact neAll (by with_reducible assumption) (by k_mem) | exact Ne.symm (neAll (by with_reducible assumption) (by k_mem)) | (refine neN ?_; omega)))
local macro_rules | `(tactic| walk_at "call type:list") => `(tactic| ((with_reducible show wpAny _ _ (call (Value.type _) [Value.ref _]) _ _ _); k_dflt ((rename Fr _ _ _ _ => qF'); (rename News _ _ _ _ => qN'); (refine' copy_N qF' qN' ?a ?z ?_); (case a => k_mem); (case z => omega); intro D' c' h' F' N' l'; (try k_sweep))))
local macro_rules | `(tactic| walk_at "call type:tuple") => `(tactic| ((with_reducible show wpAny _ _ (call (Value.type _) [Value.ref _]) _ _ _); k_dflt ((rename Fr _ _ _ _ => qF'); (rename News _ _ _ _ => qN'); (refine' tuple_N qF' qN' ?a ?z ?_); (case a => k_mem); (case z => omega); intro D' h' F' N' l'; (try k_sweep))))
local macro_rules | `(tactic| walk_at "mine isC") => `(tactic| (
  (case k6 => k_is); (case k7 => k_is); (case k9 => first | exact BindsTo.of_eq rfl | exact binds_K (Frag.In.keeps (by assumption) (by assumption)) rfl (by k_is) rfl rfl rfl); (case kB => exact rfl); (case kC => decide); (case c2 => exact rfl); (case c3 => exact rfl); (case c4 => exact rfl)))
local macro_rules | `(tactic| walk_at "exec For Name Call cons nil") => `(tactic| (k_here; (rename Fr _ _ _ _ => lF'); (with_unfolding_all refine' For_invVF lF' ?k1 ?k2 ?_; (case k1 => exact rfl); (case k2 => exact rfl); k_whole)))
local macro_rules | `(tactic| walk_at "mine in") => `(tactic| (intro p hp; repeat (first | exact hp | refine List.Mem.tail _ ?_)))
local macro_rules | `(tactic| walk_at "mine upds") => `(tactic| first
  | (refine' Upds.keep ?n ?x; (case n => with_reducible assumption); (case x => walk_at "mine upds"))
  | (refine' Upds.chg ?n ?x; (case n => with_reducible assumption); (case x => walk_at "mine upds"))
  | exact Upds.nil
  | exact Upds.same (by with_reducible assumption)
  | (refine' Upds.keep ?n ?x; (case n => first | exact ltNin2 (by with_reducible assumption) (by k_mem) (by k_mem) | exact ltNin4 (by with_reducible assumption) (by k_mem) (by k_mem) (by k_mem) (by k_mem) | (refine nin1' ?_; k_ne) | (refine ninQ2 ?_ ?_ <;> k_ne) | (refine ninQ4 ?_ ?_ ?_ ?_ <;> k_ne) | (simp <;> omega)); (case x => walk_at "mine upds"))
  | (refine' Has.cons ?n ?x; (case n => walk_at "mine mem"); (case x => walk_at "mine upds"))
  | exact Has.nil)
local macro_rules | `(tactic| walk_at "mine off") => `(tactic| first
  | exact OffD.nil
  | exact OffD.tail (by with_reducible assumption)
  | (refine' OffD.cons ?a ?b; (case a => k_ne); (case b => walk_at "mine off")))
local macro_rules | `(tactic| walk_at "mine upd1") => `(tactic| first
  | (refine' Upd.head (OffD.all ?_); (walk_at "mine off"); done)
  | (refine' Mine.Upd.tl ?n ?x; (case n => k_ne); (case x => walk_at "mine upd1")))
local macro_rules | `(tactic| walk_at "mine allin") => `(tactic| first
  | exact AllIn.nil
  | (refine' Sub.allIn ?x; (case x => walk_at "mine subl"))
  | (refine' AllIn.cons ?m ?x; (case m => walk_at "mine mem"); (case x => walk_at "mine allin"))
  | (refine' AllIn.tailI ?m ?x; (case m => walk_at "mine in"); (case x => walk_at "mine mem"))
  | (refine' AllIn.of ?m; (case m => walk_at "mine in")))
local macro_rules | `(tactic| walk_at "mine cut") => `(tactic| first
  | (refine' Cut.cons ?x; (case x => walk_at "mine cut"))
  | exact Cut.nil)
local macro_rules | `(tactic| k_all) => `(tactic| (refine OffD.all ?_; (walk_at "mine off"); done))
local macro_rules | `(tactic| walk_at "subscriptTail Name Slice ref ref") => `(tactic| refine Hold.out ?_)
local macro_rules | `(tactic| walk_at "binaryOp Add ref ref") => `(tactic| ((with_reducible show wpAny _ _ (binaryOp Operator.Add (Value.ref _) (Value.ref _)) _ _ _); k_dflt (refine' add_N ?F ?N ?a ?b ?z ?_; (case F => k_asm); (case N => k_asm); (case a => k_mem); (case b => k_mem); (case z => first | omega | (simp only [List.length_cons, List.length_nil]; omega)); intro D' h' F' N' l'; (try k_sweep))))
local macro_rules | `(tactic| walk_at "subscriptTail BinOp Call Add List Slice ref ref") => `(tactic| refine Hold.out ?_)
local macro_rules | `(tactic| walk_at "mine kept") => `(tactic| first
  | (refine' Kept.still ?n ?x; (case n => walk_at "mine memr"); (case x => walk_at "mine kept"))
  | (refine' Kept.out ?n ?m ?x; (case n => simp); (case m => walk_at "mine mem"); (case x => walk_at "mine kept"))
  | (refine' Kept.still ?n ?x; (case n => walk_at "mine mem"); (case x => walk_at "mine kept"))
  | exact Kept.nil)
-- I2
section
variable {w : World} {A : Around} {s : Shared} {Q : Result → Shared → Prop} {H0 : Heap}
    {loose : List Str} {mean : ExcName → Option Value} {mg mb : Str → Option Value}
local macro_rules | `(tactic| k_lt $x:ident) => `(tactic| skip)
set_option maxHeartbeats 8000000 in
theorem add_input_ (X : (pre.heap_1_1 w.params).In H0) (T : Top pre.view_1_2 loose mean mg mb H0) (S : H0.StaysIn s.heap) (hh : A.handled = none) (hroom : A.depth + 2 < recursionLimit)
   {N Nd I U C n nI : Nat} {ta tn : Tok} {p1 p2 p3 p4 p5 : Int} {q1 q2 q3 q4 q5 tx tc : Tok} {x : Str} (hN : s.heap.get? N = some (instObj 162 Nd)) (hD : s.heap.get? Nd = some (dictOf [⟨p1, .str (Str.ofString "name") q1, .str x tx⟩, ⟨p2, .str (Str.ofString "count") q2, .int (2) tc⟩, ⟨p3, .str (Str.ofString "inputs") q3, .ref I⟩, ⟨p4, .str (Str.ofString "outputs") q4, .ref U⟩, ⟨p5, .str (Str.ofString "cells") q5, .ref C⟩] 5)) (hI : s.heap.get? I = some (listOf #[] nI)) {oC : Obj} (hC : s.heap.get? C = some oC) (n4 : H0.get? C = none) (ne3 : I < C)
   (n1 : H0.get? N = none) (n2 : H0.get? Nd = none) (n3 : H0.get? I = none) (ne : Nd < N) (ne2 : N < I) (hn : n ≤ 100)
   (ret : ∀ h' tk' (D : Nat) vs k (Tp Lc : Nat) nI' nT nL ls p1' p2' p3' p4' p5' q1' q2' q3' q4' q5' x' tx' tc', Grow [Nd, I] s.heap h' → h'.get? Nd = some (dictOf [⟨p1', .str (Str.ofString "name") q1', .str x' tx'⟩, ⟨p2', .str (Str.ofString "count") q2', .int (((2 + n : Nat) : Int)) tc'⟩, ⟨p3', .str (Str.ofString "inputs") q3', .ref I⟩, ⟨p4', .str (Str.ofString "outputs") q4', .ref U⟩, ⟨p5', .str (Str.ofString "cells") q5', .ref C⟩] 5) → h'.get? I = some (listOf #[.ref Tp] nI') → h'.get? Tp = some (tupOf [.str (Str.ofString "a") ta, .ref Lc] nT) → h'.get? Lc = some (listOf ls.toArray nL) → Ints ls (netsL n) →
      h'.get? D = some (listOf vs.toArray k) → Ints vs (netsL n) → s.heap.get? D = none → s.heap.get? Tp = none → s.heap.get? Lc = none → D < Lc → Lc < Tp → C < Lc → Q (.ok (.ret (.ref D))) {s with heap := h', toks := tk'}) :
   codeAny (model PySem.Challenge.rw_on0108_01.row.prog w) A (.call (.ref 122) ⟨[.ref N, .str (Str.ofString "a") ta, .int (n : Int) tn], []⟩) Q s := Wr.out (by exact Wr.of _ : Wr (by
  revert X
  k_fill
  intro X
  have led : Led H0 s.heap _ := .cons hN n1 (.cons hD n2 (.cons hI n3 (.cons hC n4 .nil)))
  refine' enter X T S led ?k6 ?k7 (by omega) ?k9 ?kB ?_ ?c2 ?c3 ?c4 ?c5
  walk_at "mine is"
  intro g L h1 Xg Tg Sg hg1 hg2 hg3 hL F' N'
  try dsimp only
  try k_fold
  k_steps
  rename Fr _ _ _ _ => F2
  rename News _ _ _ _ => N2
  try dsimp only
  refine callH ?_
  refine new_nets_ (s := ⟨_, _, _, _, _⟩) Xg Tg F2.keep (by exact hh) (by show A.depth + 1 + 1 < _; omega) (newsAt N2 (by k_mem)) (newsAt N2 (by k_mem)) (newsOwn N2 (by k_mem)) (newsOwn N2 (by k_mem)) ne hn ?_
  intro h3 tk3 D vs k p1' p2' p3' p4' p5' q1' q2' q3' q4' q5' x' tx' tc' G3 e3 eD eDn iv
  refine' stepN ?u ?hm G3 F2 N2 ?_
  case u => walk_at "mine upds"
  case hm => walk_at "mine upds"
  intro F3 N3
  have nl := newsNe N2 eDn
  replace N3 := newsAdd F2 N3 eD eDn
  refine RetTo.mk ?_
  have hvl : vs.length = n := by simpa [netsL] using iv.length
  k_steps
  rename Fr _ _ _ _ => F4
  rename News _ _ _ _ => N4
  exact ret _ _ _ _ _ _ _ _ _ _ _ _ _ _ _ _ _ _ _ _ _ _ _ _ (grow_of (mods := [Nd, I]) led hg1 hL F4 N4 (by walk_at "mine kept")) (newsAt N4 (.tail _ (.tail _ (.tail _ (.tail _ (.head _)))))) (newsAt N4 (.tail _ (.tail _ (.tail _ (.tail _ (.tail _ (.head _))))))) (newsAt N4 (.head _)) (newsAt N4 (.tail _ (.head _))) iv (newsAt N4 (.tail _ (.tail _ (.head _)))) iv
    (fresh_of hg1 N4 (.tail _ (.tail _ (.head _))) (by show _ ∉ [N, Nd, I, C]; exact neNin4 nl (by k_mem) (by k_mem) (by k_mem) (by k_mem))) (fresh_of hg1 N4 (.head _) (by show _ ∉ [N, Nd, I, C]; exact ltNin4 (by with_reducible assumption) (by k_mem) (by k_mem) (by k_mem) (by k_mem))) (fresh_of hg1 N4 (.tail _ (.head _)) (by show _ ∉ [N, Nd, I, C]; exact ltNin4 (by with_reducible assumption) (by k_mem) (by k_mem) (by k_mem) (by k_mem))) (ltP (by with_reducible assumption) (by k_mem)) (ltP (by with_reducible assumption) (by k_mem)) (ltP (by with_reducible assumption) (by k_mem))))
end
-- R1
section
variable {w : World} {A : Around} {s : Shared} {Q : Result → Shared → Prop} {H0 : Heap}
    {loose : List Str} {mean : ExcName → Option Value} {mg mb : Str → Option Value}
inductive RowJ (D c Jr Sc : Nat) (oc oS : Obj) (b : Int) (size i : Nat) : List (Addr × Obj) → Prop where
  | mk (nT : Nat) (rs : List Value) (rows : List Row) (j0 j1 : Int) (t0 t1 : Tok) (nj : Nat) (cl : List (Addr × Obj)) (h0 : 0 ≤ j0) (h1 : 0 ≤ j1) (h2 : j1 ≤ b + 1 + 6 * i) (hr : RowsIn cl rs rows) (hrl : ∀ r ∈ rows, r.1.length = size) (hrn : rows.length = i) (hct : ∀ p ∈ cl, p.2.cls = .type "tuple") :
    RowJ D c Jr Sc oc oS b size i ((D, listOf rs.toArray nT) :: (c, oc) :: (Jr, listOf #[.int j0 t0, .int j1 t1, .ref Sc] nj) :: (Sc, oS) :: cl)
inductive LetJ (D c Jr Sc I : Nat) (oD oc oS oI : Obj) (cl : List (Addr × Obj)) (b : Int) (k : Nat) (ys : List Value) : List (Addr × Obj) → Prop where
  | mk (ls : List Lt) (j0 j1 : Int) (t0 t1 : Tok) (nj : Nat) (h0 : 0 ≤ j0) (h1 : 0 ≤ j1) (h2 : j1 ≤ b + k) (hys : Strs ys ls) (hln : ls.length = k) :
    LetJ D c Jr Sc I oD oc oS oI cl b k ys ((D, oD) :: (c, oc) :: (Jr, listOf #[.int j0 t0, .int j1 t1, .ref Sc] nj) :: (Sc, oS) :: (I, oI) :: cl)
theorem tup_two {cl : List (Addr × Obj)} {a b : Nat} {vs ws : List Value} {n m : Nat} (h : ∀ p ∈ cl, p.2.cls = .type "tuple") : ∀ p ∈ (a, tupOf vs n) :: (b, tupOf ws m) :: cl, p.2.cls = .type "tuple" := by
  intro p hp
  rcases List.mem_cons.mp hp with rfl | hp
  · rfl
  · rcases List.mem_cons.mp hp with rfl | hp
    · rfl
    · exact h p hp
theorem rows_snoc {rows : List Row} {size : Nat} {r : Row} (h : ∀ r ∈ rows, r.1.length = size) (e : r.1.length = size) : ∀ q ∈ rows ++ [r], q.1.length = size := by
  intro q hq
  rcases List.mem_append.mp hq with h1 | h1
  · exact h q h1
  · rw [List.mem_singleton.mp h1]; exact e
theorem RowIn.lit {cl : List (Addr × Obj)} {a T n m : Nat} {tk : Tok} {vs : List Value} {ls : List Lt} {l : Ot} (h1 : (a, tupOf [.ref T, .none, .str l.str tk] n) ∈ cl) (h2 : (T, tupOf vs m) ∈ cl) (h3 : Strs vs ls) : RowIn cl (.ref a) (ls, l) := ⟨a, T, tk, vs, n, m, rfl, h1, h2, h3⟩
theorem AllIn.last {g h : Heap} {L : Addr} {a b c d : Addr × Obj} {cl : List (Addr × Obj)} {x : Addr × Obj} (N : News g L h ((a :: b :: c :: d :: cl) ++ [x])) : News g L h (a :: b :: c :: d :: x :: cl) := AllIn.news (AllIn.of (by
  intro p hp
  simp only [List.mem_cons, List.mem_append, List.not_mem_nil, or_false, List.cons_append] at hp ⊢
  rcases hp with h | h | h | h | h | h <;> simp [h])) N
theorem AllNe.row {I : Nat} {a b c d a' c' : Obj} {x1 x2 x3 x4 x5 x6 : Nat} {e f : Obj} {cl : List (Addr × Obj)} (h : AllNe I ((x1, a) :: (x2, b) :: (x3, c) :: (x4, d) :: cl)) (h5 : @Ne Nat x5 I) (h6 : @Ne Nat x6 I) :
    AllNe I ((x1, a') :: (x2, b) :: (x3, c') :: (x4, d) :: (x5, e) :: (x6, f) :: cl) := ⟨h.1, h.2.1, h.2.2.1, h.2.2.2.1, h5, h6, h.2.2.2.2⟩
theorem JarAt.mk' {h : Heap} {Jr Sc nj : Nat} {b j0 j1 : Int} {t0 t1 : Tok} (e : h.get? Jr = some (listOf #[.int j0 t0, .int j1 t1, .ref Sc] nj)) (a : 0 ≤ j0) (c : 0 ≤ j1) (d : j1 ≤ b) : JarAt h Jr Sc b := ⟨j0, j1, t0, t1, nj, e, a, c, d⟩
theorem JarAt.elim {P : Prop} {h : Heap} {Jr Sc : Nat} {b : Int} (x : JarAt h Jr Sc b) (k : ∀ j0 j1 t0 t1 nj, h.get? Jr = some (listOf #[.int j0 t0, .int j1 t1, .ref Sc] nj) → 0 ≤ j0 → 0 ≤ j1 → j1 ≤ b → P) : P := by
  obtain ⟨j0, j1, t0, t1, nj, a, b, c, d⟩ := x
  exact k j0 j1 t0 t1 nj a b c d
local macro_rules | `(tactic| k_lt $x:ident) => `(tactic| skip)
set_option maxHeartbeats 8000000 in
theorem rows_ (X : (pre.heap_1_1 w.params).In H0) (T : Top pre.view_1_2 loose mean mg mb H0) (S : H0.StaysIn s.heap) (hh : A.handled = none) (hroom : A.depth + 1 < recursionLimit)
   {Jr Sc ns : Nat} {b : Int} {size : Nat} {tz : Tok} {vs : List Value} {xs : List Int} (hJ : JarAt s.heap Jr Sc b) (hS : s.heap.get? Sc = some (listOf vs.toArray ns)) (ix : Ints vs xs) (hne : xs ≠ []) (hle : xs.length ≤ 100)
   (hb : b ≤ 5000) (hsz2 : size ≤ 4) (nJ : H0.get? Jr = none) (nS : H0.get? Sc = none) (ne : Jr ≠ Sc)
   (ret : ∀ h' tk' R rs nr rows, Grow [Jr] s.heap h' → JarAt h' Jr Sc (b + 100) → h'.get? R = some (tupOf rs nr) → s.heap.get? R = none → RowsAt h' rs rows → (∀ r ∈ rows, r.1.length = size) → rows.length ≤ 7 → Q (.ok (.ret (.ref R))) {s with heap := h', toks := tk'}) :
   codeAny (model PySem.Challenge.rw_on0108_01.row.prog w) A (.call (.ref 267) ⟨[.ref Jr, .int (size : Int) tz], []⟩) Q s := Wr.out (by exact Wr.of _ : Wr (by
  refine hJ.elim ?_
  intro j0 j1 t0 t1 nj hJr h0 h1' h2
  revert X
  k_fill
  intro X
  have led : Led H0 s.heap _ := .cons hJr nJ (.cons hS nS .nil)
  refine' enterC X T S led ?k6 ?k7 (by omega) ?k9 ?kB ?kC ?_ ?c2 ?c3 ?c4
  walk_at "mine isC"
  intro g L h1 tk cells Xg Tg Sg hg1 hg2 hg3 hLs F' N' hcl
  have lts := led.ltp hLs
  refine oneCell hcl.one N' ?_
  clear N' hcl
  intro oc hoc N'
  replace hoc : oc.data = .cell (some (.ref Jr)) := hoc
  try dsimp only [List.cons_append, List.nil_append] at N' ⊢
  try k_fold
  k_steps
  rename Fr _ _ _ _ => F2
  rename News _ _ _ _ => N2
  rename_i D _ lD _
  refine callH ?_
  refine drawN_ (s := ⟨_, _, _, _, _⟩) Xg Tg F2.keep (by exact hh) (by show A.depth + 1 < _; omega) (newsAt N2 (by k_mem)) (newsAt N2 (by k_mem)) ix hne hle h0 h1' (by omega) (by omega) (by omega) (newsOwn N2 (by k_mem)) (newsOwn N2 (by k_mem)) ne ?_
  intro h3 tk3 t3 nj3 k0 k1 rn u0 u1 G3 e3 hk0 hk1 hk2 hr
  refine' stepN ?u ?hm G3 F2 N2 ?_
  case u => walk_at "mine upds"
  case hm => walk_at "mine upds"
  intro F3 N3
  refine RetTo.mk ?_
  k_steps
  rename Fr _ _ _ _ => F4
  rename News _ _ _ _ => N4
  rename IsRange _ _ _ _ _ _ _ _ => hrange
  have hr8 := hr.out
  have zD : D ∉ [Jr] := nin1' (Ne.symm (ltNe (by with_reducible assumption) (by k_mem)))
  have zL : L + 1 ∉ [Jr] := nin1' (Ne.symm (ltNe lts (.head _)))
  have zS : Sc ∉ [Jr] := nin_of ne
  have zL2 : L + 1 ∉ [D] := nin1' (ltNe (by with_reducible assumption) (by k_mem))
  have zJ2 : Jr ∉ [D] := nin1' (ltNe (by with_reducible assumption) (by k_mem))
  have zS2 : Sc ∉ [D] := nin1' (ltNe (by with_reducible assumption) (by k_mem))
  have neH : Hold (Jr ≠ Sc) := ⟨ne⟩
  clear ne
  refine ⟨?_⟩
  refine' for_range (n := rn) [Str.ofString "letters"] (fun i _ nx => RowJ D (L + 1) Jr Sc oc (listOf vs.toArray ns) b size i nx) (by exact hh) hrange rfl (by omega) ?F ?N ?Z ?_ ?_
  case F => exact F4
  case N => exact N4
  case Z => exact .mk 0 [] [] _ _ _ _ _ [] hk0 hk1 (by omega) .nil (by simp) rfl (by simp)
  · rintro i ti u nx h2 tk2 I oI hi ⟨nT, rs, rows, j0, j1, t0, t1, nj, cl, hj0, hj1, hj2, hrows, hrl, hrn, hct⟩ hoI hnA F5 N5
    have zI : I ∉ [Jr] := nin_of hnA.2.2.1
    have zI2 : I ∉ [D] := nin_of hnA.1
    have N5' := AllIn.last N5
    clear N5
    have hrl' : rs.length < 100000 := by rw [hrows.length]; omega
    have hlt : ∀ p ∈ cl, p.1 ∉ [Jr] := ne_tail N5' (.tail _ (.tail _ (.head _))) (by walk_at "mine in") hct rfl
    have hlD : ∀ p ∈ cl, p.1 ∉ [D] := ne_tail N5' (.head _) (by walk_at "mine in") hct rfl
    try k_fold
    k_steps
    rename Fr _ _ _ _ => F6
    rename News _ _ _ _ => N6
    refine ⟨LCg.CompSrc.range (by exact hh) F6 N6 (by assumption) (range_small size (by omega)) (range_size size) (by rw [sizeLine_eq]; omega) fun gg => ?_⟩
    refine comp_invH size (LetJ D (L + 1) Jr Sc I (listOf rs.toArray nT) oc (listOf vs.toArray ns) oI cl (b + 1 + 6 * i)) ?_ ?_ _ _ _ _ rfl (.mk [] _ _ _ _ _ hj0 hj1 (by omega) .nil rfl)
    · rintro k ys nx hk ⟨ls, j0', j1', t0', t1', nj', hj0', hj1', hj2', hys, hln⟩ v J1 oJ1 C1 oC1 D1 m₂ h9 tk9 E' ⟨tv, rfl⟩ hoC hm F9 N9 off ne'
      have o3 := off3_mem off (p := (Jr, listOf #[.int j0' t0', .int j1' t1', .ref Sc] nj')) (by k_mem)
      have oa : J1 ∉ [Jr] := nin_of o3.1
      have ob : C1 ∉ [Jr] := nin_of o3.2.1
      have oc1 : D1 ∉ [Jr] := nin_of o3.2.2
      clear o3 ne'
      try k_fold
      k_steps
      rename Fr _ _ _ _ => F10
      rename News _ _ _ _ => N10
      refine callH ?_
      refine drawN_ (s := ⟨_, _, _, _, _⟩) Xg Tg F10.keep (by exact hh) (by show A.depth + 1 < _; omega) (newsAt N10 (by k_mem)) (newsAt N10 (by k_mem)) ix hne hle hj0' hj1' (by omega) (by omega) (by omega) (newsOwn N10 (by k_mem)) (newsOwn N10 (by k_mem)) neH.out ?_
      intro h5 tk5 t5 nj5 k0 k1 rn' u0 u1 G5 e5 hk0 hk1 hk2 hr'
      refine' stepN ?u ?hm G5 F10 N10 ?_
      case u => walk_at "mine upds"
      case hm => walk_at "mine upds"
      intro F11 N11
      refine RetTo.mk ?_
      try dsimp only
      refine menuL (ls := [.z, .o, .x, .b, .q, .q]) N11 (.head _) (.cons (l := .z) (.cons (l := .o) (.cons (l := .x) (.cons (l := .b) (.cons (l := .q) (.cons (l := .q) .nil)))))) (by omega) (by have := hr'.out; simp; omega) (by decide) ?_
      intro l tl
      k_steps
      rename Fr _ _ _ _ => F12
      rename News _ _ _ _ => N12
      refine ⟨?_⟩
      refine LCg.CompEnd.intro F12 N12 ((D, listOf rs.toArray nT) :: (L + 1, oc) :: (Jr, listOf #[.int k0 u0, .int k1 u1, .ref Sc] nj5) :: (Sc, listOf vs.toArray ns) :: (I, oI) :: cl) (by walk_at "mine in") off trivial (.mk (ls ++ [l]) _ _ _ _ _ hk0 hk1 (by omega) hys.snoc (by simp [hln]))
    · rintro ys nx ⟨ls, j0', j1', t0', t1', nj', hj0', hj1', hj2', hys, hln⟩ D2 h9 tk9 F9 N9 off2
      have oJ2 : D2 ∉ [Jr] := nin_of (off1_mem off2 (p := (Jr, listOf #[.int j0' t0', .int j1' t1', .ref Sc] nj')) (by k_mem))
      have oD2 : D2 ∉ [D] := nin_of (off1_mem off2 (p := (D, listOf rs.toArray nT)) (by k_mem))
      clear off2
      have hyl : ys.length = size := hys.length.trans hln
      try k_fold
      k_steps
      rename Fr _ _ _ _ => F10
      rename News _ _ _ _ => N10
      refine callH ?_
      refine drawN_ (s := ⟨_, _, _, _, _⟩) Xg Tg F10.keep (by exact hh) (by show A.depth + 1 < _; omega) (newsAt N10 (by k_mem)) (newsAt N10 (by k_mem)) ix hne hle hj0' hj1' (by omega) (by omega) (by omega) (newsOwn N10 (by k_mem)) (newsOwn N10 (by k_mem)) neH.out ?_
      intro h5 tk5 t5 nj5 k0 k1 rn' u0 u1 G5 e5 hk0 hk1 hk2 hr'
      refine' stepN ?u ?hm G5 F10 N10 ?_
      case u => walk_at "mine upds"
      case hm => walk_at "mine upds"
      intro F11 N11
      refine RetTo.mk ?_
      try dsimp only
      refine menuO (ls := [.z, .o, .x, .o]) N11 (.head _) (.cons (l := .z) (.cons (l := .o) (.cons (l := .x) (.cons (l := .o) .nil)))) (by omega) (by have := hr'.out; simp; omega) (by decide) ?_
      intro l tl
      k_steps
      rename Fr _ _ _ _ => F14
      rename News _ _ _ _ => N14
      simp only [List.push_toArray] at N14
      rename_i Tt _ lT lx _ lX Da _ lDa _
      have hnew := AllIn.news (r := (D, listOf (rs ++ [Value.ref Da]).toArray (nT + 1)) :: (L + 1, oc) :: (Jr, listOf #[.int k0 u0, .int k1 u1, .ref Sc] nj5) :: (Sc, listOf vs.toArray ns) :: (Da, tupOf [.ref Tt, .none, .str l.str tl] 0) :: (Tt, tupOf ys 0) :: (cl ++ [(I, oI)])) (by walk_at "mine allin") N14
      exact Post.next (news' := (D, listOf (rs ++ [Value.ref Da]).toArray (nT + 1)) :: (L + 1, oc) :: (Jr, listOf #[.int k0 u0, .int k1 u1, .ref Sc] nj5) :: (Sc, listOf vs.toArray ns) :: (Da, tupOf [.ref Tt, .none, .str l.str tl] 0) :: (Tt, tupOf ys 0) :: cl) F14 hnew (AllNe.row hnA (Ne.symm (ltNe lDa (by k_mem))) (Ne.symm (ltNe lT (by k_mem)))) ⟨.mk (nT + 1) (rs ++ [Value.ref Da]) (rows ++ [(ls, l)]) _ _ _ _ _ ((Da, tupOf [.ref Tt, .none, .str l.str tl] 0) :: (Tt, tupOf ys 0) :: cl) hk0 hk1 (by omega) (hrows.snoc (fun p hp => .tail _ (.tail _ hp)) (RowIn.lit (.head _) (.tail _ (.head _)) hys)) (rows_snoc hrl hln) (by simp [hrn]) (tup_two hct), by walk_at "mine offr"⟩
  · rintro u nx h2 tk2 ⟨nT, rs, rows, j0, j1, t0, t1, nj, cl, hj0, hj1, hj2, hrows, hrl, hrn, hct⟩ F5 N5
    try k_fold
    have hrl' := hrows.length
    k_steps
    rename Fr _ _ _ _ => F6
    rename News _ _ _ _ => N6
    exact ret _ _ _ _ _ _ (grow_of (mods := [Jr]) led hg1 hLs F6 N6 (by walk_at "mine kept")) (JarAt.mk' (newsAt N6 (by k_mem)) hj0 hj1 (by omega)) (newsAt N6 (.head _)) (fresh_of hg1 N6 (.head _) (by show _ ∉ [Jr, Sc]; exact ltNin2 (by with_reducible assumption) (by k_mem) (by k_mem))) (hrows.at fun p hp => newsAt N6 (by revert p; walk_at "mine in")) hrl (by omega)))
end
-- D1
section
variable {w : World} {A : Around} {s : Shared} {Q : Result → Shared → Prop} {H0 : Heap}
    {loose : List Str} {mean : ExcName → Option Value} {mg mb : Str → Option Value}
theorem opp_nil {prog : Program} {o : Obj} (h : o.IsDictOf (intKind prog w) []) : OppObj prog w o (fun _ => none) 0 :=
  ⟨[], h, Nat.le_refl _, fun _ => .inl ⟨rfl, rfl⟩⟩
theorem made_nil {prog : Program} {o : Obj} {h : Heap} (x : o.IsDictOf (intKind prog w) []) : MadeObj prog w h o (fun _ => none) 0 := by
  obtain ⟨es, ep, a, b, c, d, e⟩ := x
  have hd : es.toList = [] := by
    cases q : es.toList with
    | nil => rfl
    | cons y r => rw [q] at d; cases d
  exact ⟨[], es, ep, a, b, hd, by simp, List.nodup_nil, Nat.le_refl _, fun _ => .inl ⟨rfl, rfl⟩⟩
set_option maxHeartbeats 8000000 in
theorem prim_init_ (X : (pre.heap_1_1 w.params).In H0) (T : Top pre.view_1_2 loose mean mg mb H0) (S : H0.StaysIn s.heap) (hh : A.handled = none) (hroom : A.depth < recursionLimit)
   {x dx Ti R : Nat} {a c : Str} {ta tb tc td : Tok} {b d : Int} (hx : s.heap.get? x = some (instObj 38 dx)) (hdx : s.heap.get? dx = some (dictOf [] 0)) (n1 : H0.get? x = none) (n2 : H0.get? dx = none) (ne : dx < x)
   (ret : ∀ h' tk' oD', Grow [dx] s.heap h' → h'.get? dx = some oD' → PrimD R oD' → Q (.ok (.ret .none)) {s with heap := h', toks := tk'}) :
   codeAny (model PySem.Challenge.rw_on0108_01.row.prog w) A (.call (.ref 35) ⟨[.ref x, .str a ta, .int b tb, .str c tc, .ref Ti, .bool false, .int d td, .ref R], []⟩) Q s := Wr.out (by exact Wr.of _ : Wr (by
  revert X
  k_fill
  intro X
  have led : Led H0 s.heap _ := .cons hx n1 (.cons hdx n2 .nil)
  refine' enter X T S led ?k6 ?k7 (by omega) ?k9 ?kB ?_ ?c2 ?c3 ?c4 ?c5
  walk_at "mine is"
  intro g L h1 Xg Tg Sg hg1 hg2 hg3 hL F' N'
  try dsimp only
  try k_fold
  k_steps
  rename Fr _ _ _ _ => F2
  rename News _ _ _ _ => N2
  exact ret _ _ _ (grow_of (mods := [dx]) led hg1 hL F2 N2 (by walk_at "mine kept")) (newsAt N2 (.tail _ (.head _))) ⟨_, _, _, _, _, _, _, _, _, _, _, _, _, _, _, _, _, _, _, _, rfl⟩))
set_option maxHeartbeats 8000000 in
theorem net_init_ (X : (pre.heap_1_1 w.params).In H0) (T : Top pre.view_1_2 loose mean mg mb H0) (S : H0.StaysIn s.heap) (hh : A.handled = none) (hroom : A.depth < recursionLimit)
   {x dx : Nat} {a : Str} {ta : Tok} (hx : s.heap.get? x = some (instObj 162 dx)) (hdx : s.heap.get? dx = some (dictOf [] 0)) (n1 : H0.get? x = none) (n2 : H0.get? dx = none) (ne : dx < x)
   (ret : ∀ h' tk' (I U C : Nat) nI nU nC p1' p2' p3' p4' p5' q1' q2' q3' q4' q5' x' tx' tc', Grow [dx] s.heap h' → h'.get? dx = some (dictOf [⟨p1', .str (Str.ofString "name") q1', .str x' tx'⟩, ⟨p2', .str (Str.ofString "count") q2', .int (2) tc'⟩, ⟨p3', .str (Str.ofString "inputs") q3', .ref I⟩, ⟨p4', .str (Str.ofString "outputs") q4', .ref U⟩, ⟨p5', .str (Str.ofString "cells") q5', .ref C⟩] 5) → h'.get? I = some (listOf #[] nI) → h'.get? U = some (listOf #[] nU) → h'.get? C = some (listOf #[] nC) → s.heap.get? I = none → s.heap.get? U = none → s.heap.get? C = none →
     x < I → I < U → U < C → Q (.ok (.ret .none)) {s with heap := h', toks := tk'}) :
   codeAny (model PySem.Challenge.rw_on0108_01.row.prog w) A (.call (.ref 103) ⟨[.ref x, .str a ta], []⟩) Q s := Wr.out (by exact Wr.of _ : Wr (by
  revert X
  k_fill
  intro X
  have led : Led H0 s.heap _ := .cons hx n1 (.cons hdx n2 .nil)
  refine' enter X T S led ?k6 ?k7 (by omega) ?k9 ?kB ?_ ?c2 ?c3 ?c4 ?c5
  walk_at "mine is"
  intro g L h1 Xg Tg Sg hg1 hg2 hg3 hL F' N'
  try dsimp only
  try k_fold
  k_steps
  rename Fr _ _ _ _ => F2
  rename News _ _ _ _ => N2
  exact ret _ _ _ _ _ _ _ _ _ _ _ _ _ _ _ _ _ _ _ _ _ (grow_of (mods := [dx]) led hg1 hL F2 N2 (by walk_at "mine kept")) (newsAt N2 (.tail _ (.tail _ (.tail _ (.tail _ (.head _)))))) (newsAt N2 (.tail _ (.tail _ (.head _)))) (newsAt N2 (.tail _ (.head _))) (newsAt N2 (.head _))
    (fresh_of hg1 N2 (.tail _ (.tail _ (.head _))) (by simp; omega)) (fresh_of hg1 N2 (.tail _ (.head _)) (by simp; omega)) (fresh_of hg1 N2 (.head _) (by simp; omega)) (by omega) (by omega) (by omega)))
set_option maxHeartbeats 8000000 in
theorem gates_init_ (X : (pre.heap_1_1 w.params).In H0) (T : Top pre.view_1_2 loose mean mg mb H0) (S : H0.StaysIn s.heap) (hh : A.handled = none) (hroom : A.depth < recursionLimit)
   {x dx N : Nat} (hx : s.heap.get? x = some (instObj 239 dx)) (hdx : s.heap.get? dx = some (dictOf [] 0)) (n1 : H0.get? x = none) (n2 : H0.get? dx = none) (ne : dx < x)
   (ret : ∀ h' tk' (M O : Nat) oM oO g1 g2 g3 u1 u2 u3, Grow [dx] s.heap h' → h'.get? dx = some (dictOf [⟨g1, .str (Str.ofString "netlist") u1, .ref N⟩, ⟨g2, .str (Str.ofString "made") u2, .ref M⟩, ⟨g3, .str (Str.ofString "opposite") u3, .ref O⟩] 3) → h'.get? M = some oM → MadeObj PySem.Challenge.rw_on0108_01.row.prog w h' oM (fun _ => none) 0 → h'.get? O = some oO → OppObj PySem.Challenge.rw_on0108_01.row.prog w oO (fun _ => none) 0 → s.heap.get? M = none → s.heap.get? O = none →
     x < M → M < O → Q (.ok (.ret .none)) {s with heap := h', toks := tk'}) :
   codeAny (model PySem.Challenge.rw_on0108_01.row.prog w) A (.call (.ref 180) ⟨[.ref x, .ref N], []⟩) Q s := Wr.out (by exact Wr.of _ : Wr (by
  revert X
  k_fill
  intro X
  have led : Led H0 s.heap _ := .cons hx n1 (.cons hdx n2 .nil)
  refine' enter X T S led ?k6 ?k7 (by omega) ?k9 ?kB ?_ ?c2 ?c3 ?c4 ?c5
  walk_at "mine is"
  intro g L h1 Xg Tg Sg hg1 hg2 hg3 hL F' N'
  try dsimp only
  try k_fold
  k_steps
  rename Fr _ _ _ _ => F2
  rename News _ _ _ _ => N2
  rename_i d1 _ o1 lo1 _ _ hi1 _ l1 _ d2 _ o2 lo2 _ _ hi2 _ l2 _
  exact ret _ _ _ _ _ _ _ _ _ _ _ _ (grow_of (mods := [dx]) led hg1 hL F2 N2 (by walk_at "mine kept")) (newsAt N2 (.tail _ (.tail _ (.tail _ (.head _))))) (newsAt N2 (.tail _ (.head _))) (made_nil hi1) (newsAt N2 (.head _)) (opp_nil hi2)
    (fresh_of hg1 N2 (.tail _ (.head _)) (by simp; omega)) (fresh_of hg1 N2 (.head _) (by simp; omega)) (by omega) (by omega)))
end
local macro_rules | `(tactic| walk_at "call ref") => `(tactic| refine Hold.out ?_)
local macro_rules | `(tactic| walk_at "mine call") => `(tactic| (refine ⟨?_⟩; (try dsimp only); refine callR ?_))
-- G1
section
variable {w : World} {A : Around} {s : Shared} {Q : Result → Shared → Prop} {H0 : Heap}
    {loose : List Str} {mean : ExcName → Option Value} {mg mb : Str → Option Value}
local macro_rules | `(tactic| walk_at "eval ListComp") => `(tactic| ((rename AsgMark => hmk'); refine Hold.out ?_))
local macro_rules | `(tactic| walk_at "exec For Name Call cons nil") => `(tactic| refine Hold.out ?_)
theorem bit_fmod (x : Int) : Bit (x.fmod 2) := by
  have h1 := fmod_nn (a := x) (b := 2) (by decide)
  have h2 := fmod_lt' (a := x) (b := 2) (by decide) (Int.le_refl _)
  unfold Bit
  omega
local macro_rules | `(tactic| walk_at "subscriptTail Attribute") => `(tactic| refine Hold.out ?_)
local macro_rules | `(tactic| walk_at "subscriptTail Subscript") => `(tactic| refine Hold.out ?_)
theorem St.elimP {P : Prop} {h : Heap} {a : GA} {σ : NS} (Z : St w H0 a h σ) (k : ∀ (vs : List Value) nC (oD oG oM oO : Obj), h.get? a.N = some (instObj 162 a.Nd) → h.get? a.Nd = some oD → oD.cls ≠ .type "tuple" → h.get? a.C = some (listOf vs.toArray nC) → h.get? a.G = some (instObj 239 a.Gd) → h.get? a.Gd = some oG → oG.cls ≠ .type "tuple" →
    h.get? a.M = some oM → oM.cls ≠ .type "tuple" → h.get? a.O = some oO → oO.cls ≠ .type "tuple" → 2 ≤ σ.count → H0.get? a.Nd = none → H0.get? a.N = none → H0.get? a.C = none → H0.get? a.Gd = none → H0.get? a.G = none → H0.get? a.M = none → H0.get? a.O = none →
    a.N ∉ [a.Nd, a.C, a.M, a.O] → a.Gd ∉ [a.Nd, a.C, a.M, a.O] → a.G ∉ [a.Nd, a.C, a.M, a.O] → a.I ∉ [a.Nd, a.C, a.M, a.O] → a.C ≠ a.I → P) : P := by
  obtain ⟨⟨o1, o2, o3, o4, o5, o6, o7, o8, o9⟩, ⟨w1, w2, w4, w5, w6, w7, w8⟩, hN, ⟨oD, hD, dD⟩, ⟨vs, nC, hC, cC⟩, hG, ⟨oG, hGd, dG⟩, ⟨oM, hM, dM⟩, ⟨oO, hO, dO⟩, c0, c1⟩ := Z
  obtain ⟨f1, f2, f3, f4, _⟩ := offs o1 o2 o3 o4 o5 o6 o7 o8 o9
  refine k vs nC oD oG oM oO hN hD ?_ hC hG hGd ?_ hM (by rw [dM.cls]; simp) hO (by rw [dO.cls]; simp) c0 w1 w2 w4 w5 w6 w7 w8 f1 f2 f3 f4 (Nat.ne_of_gt (Nat.lt_trans o3 o4))
  · obtain ⟨_, _, _, _, _, _, _, _, _, _, _, _, _, rfl⟩ := dD
    simp
  · obtain ⟨_, _, _, _, _, _, rfl⟩ := dG
    simp
inductive GJ (Cl P Pd cA cB : Nat) (o1 o2 o3 : Obj) (post : List (Addr × Obj)) : List (Addr × Obj) → Prop where
  | mk (oA oB : Obj) (v1 v2 : Option Value) (h1 : oA.data = .cell v1) (h2 : oB.data = .cell v2) : GJ Cl P Pd cA cB o1 o2 o3 post ((Cl, o1) :: (P, o2) :: (Pd, o3) :: (cA, oA) :: (cB, oB) :: post)
theorem tableG {n : Nat} {rows : List Row} {ins : List Int} {is : List Value} {P Pd R IL nr nI : Nat} {rs : List Value} {oP : Obj} {a : GA} (hil : ins.length ≤ 10) (ii : Ints is ins) (hrow : ∀ r ∈ rows, r.1.length = ins.length) (hD' : PrimD R oP) (e1 : NeA P Pd)
    (b1 : P ∉ [a.Nd, a.C, a.M, a.O]) (b2 : Pd ∉ [a.Nd, a.C, a.M, a.O]) (b3 : IL ∉ [a.Nd, a.C, a.M, a.O]) (d : Nat) {σ : NS} {cs : List Int} {ws : List Value} {Cl nc : Nat}
    (X : (pre.heap_1_1 w.params).In H0) (T : Top pre.view_1_2 loose mean mg mb H0) (S : H0.StaysIn s.heap) (hh : A.handled = none) (hroom : A.depth + (d + 5) < recursionLimit) (hu : A.units + (3 * d + 20) < cLine)
    (Z : St w H0 a s.heap σ) (J : Inv n σ) (hok : ∀ i ∈ ins, σ.ok i) (hlen : σ.cells.length + 2 * 2 ^ d ≤ 9000)
    (hP : s.heap.get? P = some (instObj 38 Pd)) (hD : s.heap.get? Pd = some oP) (hR : s.heap.get? R = some (tupOf rs nr)) (hRs : RowsAt s.heap rs rows) (hI : s.heap.get? IL = some (listOf is.toArray nI))
    (hC : s.heap.get? Cl = some (listOf ws.toArray nc)) (iw : Ints ws cs) (hcs : ∀ c ∈ cs, Bit c) (hl : cs.length + d = ins.length)
    (n1 : H0.get? P = none) (n2 : H0.get? Pd = none) (n3 : H0.get? IL = none) (n4 : H0.get? Cl = none) (e2 : NeA P Cl) (e3 : NeA Pd Cl) (b4 : Cl ∉ [a.Nd, a.C, a.M, a.O])
    (ret : ∀ h' tk' t τ r, Grow [a.Nd, a.C, a.M, a.O] s.heap h' → St w H0 a h' τ → Inv n τ → Ext n σ τ → τ.ok r → (∀ g, Bits n g → τ.val g r = if nextF rows (cs ++ (ins.drop cs.length).map (σ.val g)) = 1 then 1 else 0) → τ.cells.length + 2 ≤ σ.cells.length + 2 * 2 ^ d → Q (.ok (.ret (.int r t))) {s with heap := h', toks := tk'}) :
    codeAny (model PySem.Challenge.rw_on0108_01.row.prog w) A (.call (.ref 89) ⟨[.ref a.G, .ref P, .ref IL, .ref Cl], []⟩) Q s :=
  have gt := table_good rows ins d σ cs J hok (by omega)
  table_ hil ii hrow hD' e1 b1 b2 b3 d X T S hh hroom hu Z J hok hlen hP hD hR hRs hI hC iw (fun c hc => by have := hcs c hc; unfold Bit at this; omega) hl n1 n2 n3 n4 e2 e3 b4 fun h' tk' t G Z => ret h' tk' t _ _ G Z gt.1 gt.2.1 gt.2.2.1 gt.2.2.2 (table_len rows ins d σ cs)
local macro_rules | `(tactic| k_lt $x:ident) => `(tactic| skip)
set_option maxHeartbeats 8000000 in
theorem good_ (X : (pre.heap_1_1 w.params).In H0) (T : Top pre.view_1_2 loose mean mg mb H0) (S : H0.StaysIn s.heap) (hh : A.handled = none) (hroom : A.depth + 20 < recursionLimit) (hu : A.units + 200 < cLine)
   {n : Nat} {a : GA} {σ : NS} (Z : St w H0 a s.heap σ) (J : Inv n σ) (hlen : σ.cells.length ≤ 5000) (hn : n ≤ 4)
   {Tp Lc GC IL R nI nT nL nG nIL nr size : Nat} {tn tz : Tok} {ls gs is rs : List Value} {cs ins : List Int} {rows : List Row}
   (hI : s.heap.get? a.I = some (listOf #[.ref Tp] nI)) (hT : s.heap.get? Tp = some (tupOf [.str (Str.ofString "a") tn, .ref Lc] nT)) (hL : s.heap.get? Lc = some (listOf ls.toArray nL)) (il : Ints ls (netsL n))
   (hG : s.heap.get? GC = some (listOf gs.toArray nG)) (ig : Ints gs cs) (hcs : ∀ c ∈ cs, Bit c) (hcl : cs.length ≤ size)
   (hIL : s.heap.get? IL = some (listOf is.toArray nIL)) (ii : Ints is ins) (hil : ins.length = size) (hsz : size ≤ 4) (hok : ∀ i ∈ ins, σ.ok i)
   (hR : s.heap.get? R = some (tupOf rs nr)) (hRs : RowsAt s.heap rs rows) (hrow : ∀ r ∈ rows, r.1.length = size)
   (nI0 : H0.get? a.I = none) (nL0 : H0.get? Lc = none) (nG0 : H0.get? GC = none) (nIL0 : H0.get? IL = none)
   (cL : Lc ∉ [a.Nd, a.C, a.M, a.O]) (cG : GC ∉ [a.Nd, a.C, a.M, a.O]) (cIL : IL ∉ [a.Nd, a.C, a.M, a.O])
   (ret : ∀ h' tk' σ', Grow [a.Nd, a.C, a.M, a.O] s.heap h' → St w H0 a h' σ' → Inv n σ' → Ext n σ σ' → σ'.cells.length ≤ σ.cells.length + 32 → Q (.ok (.ret (.bool true))) {s with heap := h', toks := tk'}) :
   codeAny (model PySem.Challenge.rw_on0108_01.row.prog w) A (.call (.ref 272) ⟨[.ref R, .int (size : Int) tz, .ref a.N, .ref a.G, .ref IL, .ref GC], []⟩) Q s := Wr.out (by exact Wr.of _ : Wr (by
  have hwi := ii.length
  have hwg := ig.length
  have hwl : ls.length = n := by simpa [netsL] using il.length
  obtain ⟨d, hd⟩ : ∃ d, cs.length + d = size := ⟨size - cs.length, by omega⟩
  have hd4 : d ≤ 4 := by omega
  refine Z.elimP ?_
  intro vs nC oD oG oM oO hN hD0 ndD hC0 hGi hGd ndG hM ndM hO ndO c0 w1 w2 w4 w5 w6 w7 w8 f1 f2 f3 f4 cCI
  revert X
  k_fill
  intro X
  have led : Led H0 s.heap _ := .cons hGi w6 (.cons hGd w5 (.cons hN w2 (.cons hD0 w1 (.cons hC0 w4 (.cons hM w7 (.cons hO w8 (.cons hI nI0 (.cons hL nL0 (.cons hG nG0 (.cons hIL nIL0 .nil))))))))))
  refine' enterC X T S led ?k6 ?k7 (by omega) ?k9 ?kB ?kC ?_ ?c2 ?c3 ?c4
  walk_at "mine isC"
  intro g L h1 tk cells Xg Tg Sg hg1 hg2 hg3 hLs F' N' hcl'
  have lts := led.ltp hLs
  have lts2 := ltT lts (Nat.lt_succ_self _)
  have hLL : @LT.lt Nat _ (L + 1) (L + 1 + 1) := Nat.lt_succ_self _
  refine twoCells hcl'.two N' ?_
  clear N' hcl'
  intro oc1 oc2 hoc1 hoc2 N'
  have TG := tupG led hg1 (.cons (by simp) (.cons ndG (.cons (by simp) (.cons ndD (.cons (by simp) (.cons ndM (.cons ndO (.cons (by simp) (.cons (by simp) (.cons (by simp) (.cons (by simp) .nil)))))))))))
  have hgR := TG _ _ hR (isT _ _)
  have hgRs := hRs.mono TG
  have hgT := TG _ _ hT (isT _ _)
  try dsimp only [List.cons_append, List.nil_append] at N' ⊢
  try k_fold
  k_steps
  rename Fr _ _ _ _ => F2
  rename News _ _ _ _ => N2
  refine ⟨LCg.CompSrc.range (by exact hh) F2 N2 (by assumption) (range_small size (by omega)) (range_size size) (by rw [sizeLine_eq]; omega) fun gg => ?_⟩
  refine comp_same size (fun i ys => ys.length = i) trivial ?_ ?_ rfl
  · rintro i ys hi hy v J1 oJ1 C1 oC1 D1 m₂ h9 tk9 E' ⟨tv, rfl⟩ hoC hm F9 N9 off ne'
    have hi4 : i < 4 := by omega
    clear off ne'
    try k_fold
    k_steps
    rename Fr _ _ _ _ => Fa
    rename News _ _ _ _ => Na
    exact TurnEnd.mk Fa Na (by walk_at "mine allin") (by simp [hy])
  · rintro ys hy D h9 tk9 F9 N9 off
    clear off
    try k_fold
    k_steps
    rename Fr _ _ _ _ => Fa
    rename News _ _ _ _ => Na
    replace Na := AllIn.news (r := (L + 1 + 1, oc1) :: (L + 1, oc2) :: (a.G, instObj 239 a.Gd) :: (a.Gd, oG) :: (a.N, instObj 162 a.Nd) :: (a.Nd, oD) :: (a.C, listOf vs.toArray nC) :: (a.M, oM) :: (a.O, oO) :: (a.I, listOf #[.ref Tp] nI) :: (Lc, listOf ls.toArray nL) :: (GC, listOf gs.toArray nG) :: (IL, listOf is.toArray nIL) :: []) (by walk_at "mine allin") Na
    refine ⟨?_⟩
    refine' call_cls Fa Xg Na ?m1 ?m2 ?m3 ?_
    case m1 => k_is
    case m2 => k_is
    case m3 => k_is
    intro P Pd h10 F10 N10 l1 l2
    replace l2 := ltN l2
    have l1P := ltT l1 l2
    refine prim_init_ (s := ⟨_, _, _, _, _⟩) Xg Tg F10.keep (by exact hh) (by simp only [depth_under_make, depth_deeper]; omega) (newsAt N10 (.head _)) (newsAt N10 (.tail _ (.head _))) (newsOwn N10 (.head _)) (newsOwn N10 (.tail _ (.head _))) l2 ?_
    intro h11 tk11 oP G11 eP dP
    refine' stepN ?u ?hm G11 F10 N10 ?_
    case u => walk_at "mine upds"
    case hm => walk_at "mine upds"
    intro F11 N11
    refine ⟨rfl, ?_⟩
    try dsimp only
    k_steps
    rename Fr _ _ _ _ => Fb
    rename News _ _ _ _ => Nb
    rename_i Cl cCl _ lCl
    have ne1 : @Ne Nat P Pd := Nat.ne_of_gt l2
    have hpow : 2 ^ d ≤ 2 ^ 4 := Nat.pow_le_pow_right (by decide) hd4
    have Z0 := Z.of (TG.trans (tupFr Fb)) Nb hN (by k_mem) hD0 (by k_mem) hC0 (by k_mem) hGi (by k_mem) hGd (by k_mem) hM (by k_mem) hO (by k_mem)
    walk_at "mine call"
    refine tableG (n := n) (rows := rows) (ins := ins) (a := a) (by omega) ii (by intro r hr; rw [hrow r hr, hil]) dP ne1 (ltNin4 l1P (by k_mem) (by k_mem) (by k_mem) (by k_mem)) (ltNin4 l1 (by k_mem) (by k_mem) (by k_mem) (by k_mem)) cIL d (s := ⟨_, _, _, _, _⟩) (σ := σ) Xg Tg Fb.keep (by exact hh) (by show A.depth + 1 + _ < _; omega) (by show A.units + 3 + _ < _; omega) Z0 J hok (by omega)
      (newsAt Nb (by k_mem)) (newsAt Nb (by k_mem)) (Fb.keep _ _ hgR) (hgRs.mono (tupFr Fb)) (newsAt Nb (by k_mem)) (newsAt Nb (.head _)) ig hcs (hd.trans hil.symm) (newsOwn Nb (by k_mem)) (newsOwn Nb (by k_mem)) (newsOwn Nb (by k_mem)) (newsOwn Nb (.head _)) (ltNe lCl (by k_mem)) (ltNe lCl (by k_mem)) (ltNin4 lCl (by k_mem) (by k_mem) (by k_mem) (by k_mem)) ?_
    intro h12 tk12 t12 τ net G12 Z12 Jt Et okn vnet lt
    refine Z12.elimN ?_
    intro vs3 nC3 oM3 oO3 p1 p2 p3 p4 p5 q1 q2 q3 q4 q5 xn tx tc hD3 hC3 hM3 hO3
    refine' stepT (by walk_at "mine cut") ?u ?hm G12 Fb Nb ?_
    case u => walk_at "mine upds"
    case hm => walk_at "mine upds"
    intro cl12 F12 N12 lift12 tup12
    dsimp only [List.cons_append, List.nil_append] at N12
    have hcA := ne_cell N12 (c := L + 1 + 1) (by k_mem) hoc1 (by walk_at "mine in") tup12
    have hcB := ne_cell N12 (c := L + 1) (by k_mem) hoc2 (by walk_at "mine in") tup12
    have kN3 : h12.get? a.N = some (instObj 162 a.Nd) := newsAt N12 (by k_mem)
    have kG3 : h12.get? a.G = some (instObj 239 a.Gd) := newsAt N12 (by k_mem)
    have kJ3 : h12.get? a.Gd = some oG := newsAt N12 (by k_mem)
    refine RetTo.mk ?_
    k_steps
    rename Fr _ _ _ _ => Fc
    rename News _ _ _ _ => Nc
    refine ⟨?_⟩
    refine list_item (vs := [.ref Tp]) (i := 0) Nc (by k_mem) rfl (by decide) ?_
    k_steps
    rename Fr _ _ _ _ => Fc
    rename News _ _ _ _ => Nc
    refine ⟨?_⟩
    refine tup_item (i := 1) (Fc.keep _ _ hgT) rfl (by decide) ?_
    k_steps
    rename Fr _ _ _ _ => Fd
    rename News _ _ _ _ => Nd'
    refine ⟨forR_range Fd ?_ (by intro _; rfl)⟩
    k_steps
    rename Fr _ _ _ _ => Fe
    rename News _ _ _ _ => Ne'
    rename IsRange _ _ _ _ _ _ _ _ => hrange
    have hTd := lift12.tup Fe Ne' (by walk_at "mine in")
    have Zd := Z12.of hTd Ne' kN3 (by k_mem) hD3 (by k_mem) hC3 (by k_mem) kG3 (by k_mem) kJ3 (by k_mem) hM3 (by k_mem) hO3 (by k_mem)
    have hpn : 2 ^ n ≤ 2 ^ 4 := Nat.pow_le_pow_right (by decide) (by omega)
    have lift0 : Lift g h12 cl12 := lift12
    generalize hod : dictOf [⟨p1, .str (Str.ofString "name") q1, .str xn tx⟩, ⟨p2, .str (Str.ofString "count") q2, .int τ.count tc⟩, ⟨p3, .str (Str.ofString "inputs") q3, .ref a.I⟩, ⟨p4, .str (Str.ofString "outputs") q4, .ref a.U⟩, ⟨p5, .str (Str.ofString "cells") q5, .ref a.C⟩] 5 = od at Ne' hD3
    obtain ⟨J9, hJ9⟩ : ∃ J9 : Nat → (Str → Option Value) → List (Addr × Obj) → Prop, J9 = fun _ _ nx => GJ Cl P Pd (L + 1 + 1) (L + 1) (listOf gs.toArray cCl) (instObj 38 Pd) oP ((a.G, instObj 239 a.Gd) :: (a.Gd, oG) :: (a.N, instObj 162 a.Nd) :: (a.Nd, od) :: (a.C, listOf vs3.toArray nC3) :: (a.M, oM3) :: (a.O, oO3) :: (a.I, listOf #[.ref Tp] nI) :: (Lc, listOf ls.toArray nL) :: (GC, listOf gs.toArray nG) :: (IL, listOf is.toArray nIL) :: cl12) nx := ⟨_, rfl⟩
    refine ForR.mk (n := 2 ^ n) [Str.ofString "seen"] J9 (by exact hh) hrange (by simp [hwl]) (by omega) Fe (AllIn.news (by walk_at "mine allin") Ne') (JH hJ9 (.mk _ _ _ _ hoc1 hoc2)) ?_ ?_
    · intro i ti u nx h6 tk6 I' oI' hi hj hoI hne F6 N6
      obtain ⟨oc1', oc2', v1, v2, hv1, hv2⟩ := JE hJ9 hj
      have N6' : News g L h6 ((Cl, listOf gs.toArray cCl) :: (P, instObj 38 Pd) :: (Pd, oP) :: (L + 1 + 1, oc1') :: (L + 1, oc2') :: (a.G, instObj 239 a.Gd) :: (a.Gd, oG) :: (a.N, instObj 162 a.Nd) :: (a.Nd, od) :: (a.C, listOf vs3.toArray nC3) :: (a.M, oM3) :: (a.O, oO3) :: (a.I, listOf #[.ref Tp] nI) :: (Lc, listOf ls.toArray nL) :: (GC, listOf gs.toArray nG) :: (IL, listOf is.toArray nIL) :: (I', oI') :: cl12) := News.swap (l := (Cl, listOf gs.toArray cCl) :: (P, instObj 38 Pd) :: (Pd, oP) :: (L + 1 + 1, oc1') :: (L + 1, oc2') :: (a.G, instObj 239 a.Gd) :: (a.Gd, oG) :: (a.N, instObj 162 a.Nd) :: (a.Nd, od) :: (a.C, listOf vs3.toArray nC3) :: (a.M, oM3) :: (a.O, oO3) :: (a.I, listOf #[.ref Tp] nI) :: (Lc, listOf ls.toArray nL) :: (GC, listOf gs.toArray nG) :: (IL, listOf is.toArray nIL) :: []) N6
      clear N6
      have hneB : @Ne Nat I' (L + 1) := Ne.symm (allNe_mem hne (L + 1, oc2') (by k_mem))
      have hneA : @Ne Nat I' (L + 1 + 1) := Ne.symm (allNe_mem hne (L + 1 + 1, oc1') (by k_mem))
      try k_fold
      k_steps
      rename Fr _ _ _ _ => F7
      rename News _ _ _ _ => N7
      refine ⟨LCg.CompSrc.range (by exact hh) F7 N7 (by assumption) (range_small ls.length (by omega)) (range_size ls.length) (by rw [sizeLine_eq]; omega) fun gg => ?_⟩
      refine comp_same ls.length (fun i ys => ∃ bs, Ints ys bs ∧ bs.length = i ∧ ∀ b ∈ bs, Bit b) trivial ?_ ?_ ⟨[], .nil, rfl, by simp⟩
      · rintro j ys hj ⟨bs, hbs, hbl, hbb⟩ v J1 oJ1 C1 oC1 D1 m₂ h9 tk9 E' ⟨tv, rfl⟩ hoC hm F9 N9 off ne'
        have hj4 : j < 4 := by omega
        have hi16 : i < 16 := by omega
        clear off ne'
        try k_fold
        k_steps
        rename Fr _ _ _ _ => Fa
        rename News _ _ _ _ => Na
        refine TurnEnd.mk Fa Na (by walk_at "mine allin") ⟨bs ++ [_], hbs.snoc, by simp [hbl], ?_⟩
        intro b hb
        rcases List.mem_append.mp hb with hb | hb
        · exact hbb b hb
        · rw [List.mem_singleton.mp hb]
          exact bit_fmod _
      · rintro ys ⟨g0, hg0, hgl, hgb⟩ Gl h9 tk9 F9 N9 offg
        have hgg : Bits n g0 := ⟨by omega, hgb⟩
        have cG' : @Ne Nat a.C Gl := off1_mem offg (p := (a.C, listOf vs3.toArray nC3)) (by k_mem)
        have glA : @Ne Nat Gl (L + 1 + 1) := Ne.symm (off1_mem offg (p := (L + 1 + 1, oc1')) (by k_mem))
        clear offg
        try k_fold
        k_steps
        rename Fr _ _ _ _ => F8
        rename News _ _ _ _ => N8
        have Z8 := Z12.of (lift0.tup F8 N8 (by walk_at "mine in")) N8 kN3 (by k_mem) hD3 (by k_mem) hC3 (by k_mem) kG3 (by k_mem) kJ3 (by k_mem) hM3 (by k_mem) hO3 (by k_mem)
        have cL' := cL
        simp only [List.mem_cons, List.not_mem_nil, or_false, not_or] at cL'
        walk_at "mine call"
        refine held_ (s := ⟨_, _, _, _, _⟩) Xg Tg F8.keep (by exact hh) (by show A.depth + 1 < _; omega) (by show A.units + 3 + _ < _; omega) Z8 Jt (by omega) (by omega) (newsAt N8 (by k_mem)) (F8.keep _ _ hgT) (newsAt N8 (by k_mem)) il (newsAt N8 (by k_mem)) hg0 hgg (newsOwn N8 (by k_mem)) cCI (Ne.symm cL'.2.1) cG' (newsOwn N8 (by k_mem)) (newsOwn N8 (by k_mem)) ?_
        intro h13 tk13 Dn oN G13 eDn eN hOp
        refine step0 G13 F8 N8 ?_
        intro F13 N13
        have nl := newsNe N8 eDn
        have nlA : @Ne Nat Dn (L + 1 + 1) := Ne.symm (neAll (o := oc1') nl (by k_mem))
        replace N13 := newsAdd F8 N13 eN eDn
        refine RetTo.mk ?_
        have hmk : AsgMark := ⟨⟩
        k_steps
        rename Fr _ _ _ _ => F13'
        rename News _ _ _ _ => N13'
        refine ⟨?_⟩
        refine' LCg.ListComp_U F13' ?d1 ?d2 ?d3 ?d4 ?d5 ?_
        case d1 => with_unfolding_all rfl
        case d2 => decide
        case d3 => rfl
        case d4 => decide
        case d5 => rfl
        k_steps
        rename Fr _ _ _ _ => F14
        rename News _ _ _ _ => N14
        refine ⟨?_⟩
        refine slice_fromN (k := gs.length) F14 N14 (by k_mem) (by omega) ?_
        intro Sl h15 F15 N15 l15
        k_steps
        rename Fr _ _ _ _ => F16
        rename News _ _ _ _ => N16
        have hdr : Ints (is.drop gs.length) (ins.drop cs.length) := by rw [hwg]; exact ii.drop _
        have hdl : (is.drop gs.length).length = (ins.drop cs.length).length := hdr.length
        have hdl2 : (ins.drop cs.length).length ≤ 4 := by rw [List.length_drop]; omega
        have hVl : ((valsOf g0 τ.cells).length : Int) = τ.count := by rw [valsOf_len, hgg.1, Jt.cnt]; omega
        refine ⟨LCg.CompSrc.ledger (by exact hh) F16 N16 (by k_mem) (by rw [List.size_toArray, sizeLine_eq]; omega) fun gg => ?_⟩
        refine comp_same _ (fun i ys => Ints ys (((ins.drop cs.length).take i).map (at0 (valsOf g0 τ.cells)))) (.inr ⟨_, by k_mem, rfl, _, rfl⟩) ?_ ?_ .nil
        · rintro j ys hj hys v J1 oJ1 C1 oC1 D1 m₂ h9 tk9 E' hv1 hoC hm F9 N9 off ne'
          clear off ne'
          revert v
          refine hdr.atE ?_
          intro kk t9 hkk hm
          have hok' := Et.ok (hok kk (List.mem_of_mem_drop (List.mem_of_getElem? hkk)))
          have hyk : tab (valsOf g0 τ.cells) kk = some (at0 (valsOf g0 τ.cells) kk) := tab_some hok'.1 (by rw [hVl]; exact hok'.2)
          clear hok'
          try k_fold
          k_steps
          rename Fr _ _ _ _ => Fa
          rename News _ _ _ _ => Na
          exact TurnEnd.mk Fa Na (by walk_at "mine allin") (ints_take hys hkk)
        · rintro ys hys Ds h9 tk9 F9 N9 offd
          clear offd
          have hys' : Ints ys ((ins.drop cs.length).map (at0 (valsOf g0 τ.cells))) := by
            have e : (ins.drop cs.length).take (is.drop gs.length).toArray.size = ins.drop cs.length := by rw [List.size_toArray, hdl]; exact List.take_length
            rw [e] at hys; exact hys
          clear hys
          have hyl : ys.length ≤ 4 := by have := hys'.length; rw [List.length_map] at this; omega
          have hnet : tab (valsOf g0 τ.cells) net = some (at0 (valsOf g0 τ.cells) net) := tab_some okn.1 (by rw [hVl]; exact okn.2)
          try k_fold
          k_steps
          rename Fr _ _ _ _ => F17
          rename News _ _ _ _ => N17
          have hsb : ∀ c ∈ cs ++ (ins.drop cs.length).map (at0 (valsOf g0 τ.cells)), Bit c := by
            intro c hc
            rcases List.mem_append.mp hc with hc | hc
            · exact hcs c hc
            · obtain ⟨i, _, rfl⟩ := List.mem_map.mp hc
              exact Jt.bit hgg i
          have hseenl : (cs ++ (ins.drop cs.length).map (at0 (valsOf g0 τ.cells))).length = size := by
            rw [List.length_append, List.length_map, List.length_drop]; omega
          have hfin : toldF rows (cs ++ (ins.drop cs.length).map (at0 (valsOf g0 τ.cells))) = at0 (valsOf g0 τ.cells) net := by
            have e : (ins.drop cs.length).map (at0 (valsOf g0 τ.cells)) = (ins.drop cs.length).map (σ.val g0) :=
              List.map_congr_left fun i hi => Et.val g0 i hgg (hok i (List.mem_of_mem_drop hi))
            rw [told_eq hsb, e]
            exact (vnet g0 hgg).symm
          walk_at "mine call"
          refine told_ (s := ⟨_, _, _, _, _⟩) Xg Tg F17.keep (by exact hh) (by show A.depth + 1 < _; omega) (F17.keep _ _ hgR) (hgRs.mono (tupFr F17)) (newsAt N17 (.head _)) (ig.append hys') hsb (by omega) (by intro r hr; rw [hrow r hr, hseenl]) (newsOwn N17 (.head _)) ?_
          intro h18 tk18 t18 G18
          refine step0 G18 F17 N17 ?_
          intro F18 N18
          refine RetTo.mk ?_
          rw [hfin]
          clear hfin hseenl hsb
          k_steps
          all_goals (rename Fr _ _ _ _ => F19; rename News _ _ _ _ => N19)
          · exact absurd rfl (by assumption : ¬ (at0 (valsOf g0 τ.cells) net = at0 (valsOf g0 τ.cells) net))
          · rename _ = Data.cell (some (Value.ref Dn)) => hA
            rename _ = Data.cell (some (Value.int (i : Int) ti)) => hB
            exact Post.next (news' := (Cl, listOf gs.toArray cCl) :: (P, instObj 38 Pd) :: (Pd, oP) :: (L + 1 + 1, _) :: (L + 1, _) :: (a.G, instObj 239 a.Gd) :: (a.Gd, oG) :: (a.N, instObj 162 a.Nd) :: (a.Nd, od) :: (a.C, listOf vs3.toArray nC3) :: (a.M, oM3) :: (a.O, oO3) :: (a.I, listOf #[.ref Tp] nI) :: (Lc, listOf ls.toArray nL) :: (GC, listOf gs.toArray nG) :: (IL, listOf is.toArray nIL) :: cl12) F19 (News.unswap (l := (Cl, listOf gs.toArray cCl) :: (P, instObj 38 Pd) :: (Pd, oP) :: (L + 1 + 1, _) :: (L + 1, _) :: (a.G, instObj 239 a.Gd) :: (a.Gd, oG) :: (a.N, instObj 162 a.Nd) :: (a.Nd, od) :: (a.C, listOf vs3.toArray nC3) :: (a.M, oM3) :: (a.O, oO3) :: (a.I, listOf #[.ref Tp] nI) :: (Lc, listOf ls.toArray nL) :: (GC, listOf gs.toArray nG) :: (IL, listOf is.toArray nIL) :: []) (AllIn.news (r := (Cl, listOf gs.toArray cCl) :: (P, instObj 38 Pd) :: (Pd, oP) :: (L + 1 + 1, _) :: (L + 1, _) :: (a.G, instObj 239 a.Gd) :: (a.Gd, oG) :: (a.N, instObj 162 a.Nd) :: (a.Nd, od) :: (a.C, listOf vs3.toArray nC3) :: (a.M, oM3) :: (a.O, oO3) :: (a.I, listOf #[.ref Tp] nI) :: (Lc, listOf ls.toArray nL) :: (GC, listOf gs.toArray nG) :: (IL, listOf is.toArray nIL) :: (I', oI') :: cl12) (by walk_at "mine allin") N19)) (by exact hne) ⟨JH hJ9 (.mk _ _ _ _ hA hB), by walk_at "mine offs"⟩
    · intro u nx h6 tk6 hj F6 N6
      obtain ⟨oc1', oc2', v1, v2, hv1, hv2⟩ := JE hJ9 hj
      try k_fold
      k_steps
      rename Fr _ _ _ _ => F7
      rename News _ _ _ _ => N7
      have G7 := grow_of (mods := [a.Nd, a.C, a.M, a.O]) led hg1 hLs F7 N7 (by walk_at "mine kept")
      have Z7 := Z12.of (lift0.tup F7 N7 (by walk_at "mine in")) N7 kN3 (by k_mem) hD3 (by k_mem) hC3 (by k_mem) kG3 (by k_mem) kJ3 (by k_mem) hM3 (by k_mem) hO3 (by k_mem)
      exact ret _ _ τ G7 (Z7.own' Z.own) Jt Et (by omega)))
end
local macro_rules | `(tactic| k_lt $x:ident) => `(tactic| skip)
local macro_rules | `(tactic| walk_at "exec If") => `(tactic| refine Hold.out ?_)
local macro_rules | `(tactic| walk_at "subscriptTail Name Name ref int") => `(tactic| refine Hold.out ?_)
local macro_rules | `(tactic| walk_at "subscriptTail Name Call ref int") => `(tactic| refine Hold.out ?_)

theorem fin.tw10098057777631523497 : True := trivial
theorem fin.tw1014637456484912126 : True := trivial
theorem fin.tw10147658903529517814 : True := trivial
theorem fin.tw10242451874928486539 : True := trivial
theorem fin.tw10383673109516279431 : True := trivial
theorem fin.tw10391319463526535247 : True := trivial
theorem fin.tw10599938827571368224 : True := trivial
theorem fin.tw10807920368746810246 : True := trivial
theorem fin.tw10874316729293906858 : True := trivial
theorem fin.tw10875463905939285979 : True := trivial
theorem fin.tw10891054232620793217 : True := trivial
theorem fin.tw10895054467252067526 : True := trivial
theorem fin.tw10925335251469727208 : True := trivial
theorem fin.tw11079828417688620724 : True := trivial
theorem fin.tw11112386831996348380 : True := trivial
theorem fin.tw111200028466390044 : True := trivial
theorem fin.tw11151619158091525091 : True := trivial
theorem fin.tw11154830654865731599 : True := trivial
theorem fin.tw11336253725339858928 : True := trivial
theorem fin.tw11414674201277728305 : True := trivial
theorem fin.tw11615019562542576733 : True := trivial
theorem fin.tw12075752447934394673 : True := trivial
theorem fin.tw12105171945263650130 : True := trivial
theorem fin.tw12118000046449163591 : True := trivial
theorem fin.tw12141802397888321627 : True := trivial
theorem fin.tw12180539936304867106 : True := trivial
theorem fin.tw12212933522069011988 : True := trivial
theorem fin.tw12284014389350100970 : True := trivial
theorem fin.tw12409915417874342407 : True := trivial
theorem fin.tw12448240930570709186 : True := trivial
theorem fin.tw12464766053444552404 : True := trivial
theorem fin.tw1249118550022496774 : True := trivial
theorem fin.tw12494888245299231016 : True := trivial
theorem fin.tw1252854909445205041 : True := trivial
theorem fin.tw12550770813317053977 : True := trivial
theorem fin.tw12629903358213643309 : True := trivial
theorem fin.tw12711679700452659978 : True := trivial
theorem fin.tw12740692763255036000 : True := trivial
theorem fin.tw12829507556594621215 : True := trivial
theorem fin.tw12869217540446652890 : True := trivial
theorem fin.tw12876064707754696378 : True := trivial
theorem fin.tw12876116671307685997 : True := trivial
theorem fin.tw12962497063298326498 : True := trivial
theorem fin.tw12977279227502587607 : True := trivial
theorem fin.tw12996517811204074000 : True := trivial
theorem fin.tw13162651487661262736 : True := trivial
theorem fin.tw13177410634674063896 : True := trivial
theorem fin.tw13294311002278339166 : True := trivial
theorem fin.tw13337293482115323266 : True := trivial
theorem fin.tw13360279666012451719 : True := trivial
theorem fin.tw13383306551100868464 : True := trivial
theorem fin.tw13467322939085005891 : True := trivial
theorem fin.tw13516622038369049944 : True := trivial
theorem fin.tw13724452099449386491 : True := trivial
theorem fin.tw13790858721211988464 : True := trivial
theorem fin.tw13870153662132920491 : True := trivial
theorem fin.tw13929302177132474383 : True := trivial
theorem fin.tw1397303283331804279 : True := trivial
theorem fin.tw14109310954907245088 : True := trivial
theorem fin.tw14139026862911339306 : True := trivial
theorem fin.tw14210890002308233579 : True := trivial
theorem fin.tw14245171486683049214 : True := trivial
theorem fin.tw14431720936831517352 : True := trivial
theorem fin.tw14497727239971306367 : True := trivial
theorem fin.tw14517287926952318261 : True := trivial
theorem fin.tw14560573928864763818 : True := trivial
theorem fin.tw14578271805448956485 : True := trivial
theorem fin.tw14814673180317915700 : True := trivial
theorem fin.tw14856888987745899463 : True := trivial
theorem fin.tw15201286185872193147 : True := trivial
theorem fin.tw15205425988870721313 : True := trivial
theorem fin.tw15309079848183770524 : True := trivial
theorem fin.tw15344004072050561172 : True := trivial
theorem fin.tw1535588207084551279 : True := trivial
theorem fin.tw15373703851562958014 : True := trivial
theorem fin.tw15533503492667675913 : True := trivial
theorem fin.tw15564276425815640635 : True := trivial
theorem fin.tw15566928917628492161 : True := trivial
theorem fin.tw15832999045522443761 : True := trivial
theorem fin.tw15837006823960004117 : True := trivial
theorem fin.tw16103849850496634939 : True := trivial
theorem fin.tw16115155874713506467 : True := trivial
theorem fin.tw1613116972386908190 : True := trivial
theorem fin.tw16175276709679454751 : True := trivial
theorem fin.tw16196181902256332553 : True := trivial
theorem fin.tw16229209127682248589 : True := trivial
theorem fin.tw16237762584071213788 : True := trivial
theorem fin.tw1625080806587739848 : True := trivial
theorem fin.tw16252508478716706905 : True := trivial
theorem fin.tw16275787546110486726 : True := trivial
theorem fin.tw16407147864228438881 : True := trivial
theorem fin.tw16496857829328116044 : True := trivial
theorem fin.tw16510490156224867327 : True := trivial
theorem fin.tw16530489862217454893 : True := trivial
theorem fin.tw16540275574145912595 : True := trivial
theorem fin.tw16656299143469825513 : True := trivial
theorem fin.tw1666694428299288667 : True := trivial
theorem fin.tw16791966757467664075 : True := trivial
theorem fin.tw16889484823980962733 : True := trivial
theorem fin.tw16906536467411238026 : True := trivial
theorem fin.tw16934629359412608497 : True := trivial
theorem fin.tw16958243865122950064 : True := trivial
theorem fin.tw17067295170570645592 : True := trivial
theorem fin.tw17123178472405020103 : True := trivial
theorem fin.tw17197158672614542318 : True := trivial
theorem fin.tw17204297501091165112 : True := trivial
theorem fin.tw17351870548753644034 : True := trivial
theorem fin.tw17362494058136835672 : True := trivial
theorem fin.tw17416127249078093707 : True := trivial
theorem fin.tw17570709534508481193 : True := trivial
theorem fin.tw17628183408451194143 : True := trivial
theorem fin.tw17662344363894024548 : True := trivial
theorem fin.tw17717364068325071970 : True := trivial
theorem fin.tw17743408960866722510 : True := trivial
theorem fin.tw17744370242668122805 : True := trivial
theorem fin.tw17821466097196317003 : True := trivial
theorem fin.tw17861066769153400444 : True := trivial
theorem fin.tw17896612028031085017 : True := trivial
theorem fin.tw17933470926392208243 : True := trivial
theorem fin.tw18105285910621931680 : True := trivial
theorem fin.tw18105942590061964161 : True := trivial
theorem fin.tw18195182924450695511 : True := trivial
theorem fin.tw18230178534529381785 : True := trivial
theorem fin.tw1887099378405440850 : True := trivial
theorem fin.tw1921391257341544841 : True := trivial
theorem fin.tw1976505206021243879 : True := trivial
theorem fin.tw1982079694162106894 : True := trivial
theorem fin.tw216489041496292469 : True := trivial
theorem fin.tw2304379251839397102 : True := trivial
theorem fin.tw2305881189932309285 : True := trivial
theorem fin.tw2321816554428607280 : True := trivial
theorem fin.tw2367325634123391141 : True := trivial
theorem fin.tw2415902012162501839 : True := trivial
theorem fin.tw2462912638960843985 : True := trivial
theorem fin.tw2512408688544751470 : True := trivial
theorem fin.tw2608567993692976607 : True := trivial
theorem fin.tw2656788454239962097 : True := trivial
theorem fin.tw2866121171748074186 : True := trivial
theorem fin.tw2910385600587045654 : True := trivial
theorem fin.tw2936911503964510273 : True := trivial
theorem fin.tw2976117146107443816 : True := trivial
theorem fin.tw3004984022683251337 : True := trivial
theorem fin.tw3105451386036433885 : True := trivial
theorem fin.tw3125960719983571848 : True := trivial
theorem fin.tw3173534031939492945 : True := trivial
theorem fin.tw3263211703599914710 : True := trivial
theorem fin.tw3314143786362844604 : True := trivial
theorem fin.tw3343445320678177929 : True := trivial
theorem fin.tw3404873503106905745 : True := trivial
theorem fin.tw3459265974087741279 : True := trivial
theorem fin.tw3599858809825778643 : True := trivial
theorem fin.tw380778119907437045 : True := trivial
theorem fin.tw3810338749695602999 : True := trivial
theorem fin.tw3810570522144960214 : True := trivial
theorem fin.tw3975253019698251321 : True := trivial
theorem fin.tw4170516301191304579 : True := trivial
theorem fin.tw4171678462856256454 : True := trivial
theorem fin.tw4209717502836232480 : True := trivial
theorem fin.tw4218790737952374519 : True := trivial
theorem fin.tw428092273266315144 : True := trivial
theorem fin.tw4312942655851389009 : True := trivial
theorem fin.tw4326780796455107134 : True := trivial
theorem fin.tw4480955640702534990 : True := trivial
theorem fin.tw452842511749404161 : True := trivial
theorem fin.tw4570111826955561243 : True := trivial
theorem fin.tw4588413851689716618 : True := trivial
theorem fin.tw4598667867955821814 : True := trivial
theorem fin.tw4640724917100965312 : True := trivial
theorem fin.tw4684940682943077961 : True := trivial
theorem fin.tw4719063310657182621 : True := trivial
theorem fin.tw4759752924163587094 : True := trivial
theorem fin.tw4768634762848416435 : True := trivial
theorem fin.tw4769821431679368130 : True := trivial
theorem fin.tw4788878847521262168 : True := trivial
theorem fin.tw480829909506669009 : True := trivial
theorem fin.tw4868334931027891882 : True := trivial
theorem fin.tw4878226113927451544 : True := trivial
theorem fin.tw4879674094562380441 : True := trivial
theorem fin.tw4950403968356008110 : True := trivial
theorem fin.tw5073790198343104882 : True := trivial
theorem fin.tw5098551885099359569 : True := trivial
theorem fin.tw5102460946473063141 : True := trivial
theorem fin.tw544173102793226557 : True := trivial
theorem fin.tw5486226609284752418 : True := trivial
theorem fin.tw5678346346211369953 : True := trivial
theorem fin.tw5734618986648460908 : True := trivial
theorem fin.tw5776136370200156792 : True := trivial
theorem fin.tw5805905742469029177 : True := trivial
theorem fin.tw5901363791540438844 : True := trivial
theorem fin.tw590388290315067818 : True := trivial
theorem fin.tw60464790676949430 : True := trivial
theorem fin.tw6068950659093879613 : True := trivial
theorem fin.tw6081921254191324426 : True := trivial
theorem fin.tw6127190174262240918 : True := trivial
theorem fin.tw612862322836996645 : True := trivial
theorem fin.tw6144012678527597917 : True := trivial
theorem fin.tw6207176494656529804 : True := trivial
theorem fin.tw6381419901266130222 : True := trivial
theorem fin.tw6454446336052903152 : True := trivial
theorem fin.tw6455845175183424153 : True := trivial
theorem fin.tw6515953530934532768 : True := trivial
theorem fin.tw6567050819087999508 : True := trivial
theorem fin.tw6634307039904815820 : True := trivial
theorem fin.tw6650461044873433052 : True := trivial
theorem fin.tw6667815254911646788 : True := trivial
theorem fin.tw670465573061467203 : True := trivial
theorem fin.tw6707113841082798463 : True := trivial
theorem fin.tw6712194924023145494 : True := trivial
theorem fin.tw6766378078585498003 : True := trivial
theorem fin.tw6766580051018981234 : True := trivial
theorem fin.tw6968583824967984638 : True := trivial
theorem fin.tw7000300075881102575 : True := trivial
theorem fin.tw7055459427971326715 : True := trivial
theorem fin.tw7282745182861764756 : True := trivial
theorem fin.tw744865244796547220 : True := trivial
theorem fin.tw7507374322917041583 : True := trivial
theorem fin.tw757079261281740938 : True := trivial
theorem fin.tw7675655780812522254 : True := trivial
theorem fin.tw7803649310394182010 : True := trivial
theorem fin.tw7976502392129159676 : True := trivial
theorem fin.tw799341379326975648 : True := trivial
theorem fin.tw7995362448368537469 : True := trivial
theorem fin.tw8018989035897545986 : True := trivial
theorem fin.tw8025084765662995669 : True := trivial
theorem fin.tw807531904560671035 : True := trivial
theorem fin.tw8119881530291889089 : True := trivial
theorem fin.tw8185329134320300758 : True := trivial
theorem fin.tw8269367382603917829 : True := trivial
theorem fin.tw8352470293576582857 : True := trivial
theorem fin.tw8408514402456403777 : True := trivial
theorem fin.tw8416529770105884409 : True := trivial
theorem fin.tw8421019938134491252 : True := trivial
theorem fin.tw846297522682114974 : True := trivial
theorem fin.tw8559517257967667466 : True := trivial
theorem fin.tw8577089030196625639 : True := trivial
theorem fin.tw8590288500278120515 : True := trivial
theorem fin.tw8643116662766533202 : True := trivial
theorem fin.tw8656503046869711584 : True := trivial
theorem fin.tw8701127448935683631 : True := trivial
theorem fin.tw876206183137641144 : True := trivial
theorem fin.tw891787732878383699 : True := trivial
theorem fin.tw8919302590299486024 : True := trivial
theorem fin.tw8947099994592609211 : True := trivial
theorem fin.tw895571856199123645 : True := trivial
theorem fin.tw9173603110224643122 : True := trivial
theorem fin.tw9218923581257491847 : True := trivial
theorem fin.tw9265913902213222685 : True := trivial
theorem fin.tw9357874355931990178 : True := trivial
theorem fin.tw9363291351745731410 : True := trivial
theorem fin.tw9387745189664136937 : True := trivial
theorem fin.tw9544026089342320630 : True := trivial
theorem fin.tw9722632081671974098 : True := trivial
theorem fin.tw9735714214384596553 : True := trivial
theorem fin.tw9746214513668125432 : True := trivial
theorem fin.tw9746901515087519452 : True := trivial
theorem fin.tw999798209818781672 : True := trivial

set_option Elab.async true in
theorem fin : PySem.Challenge.rw_on0108_01.Holds := by
  w_on
  o_law
  o_head (kHook pre.heap_1_1 [2, 3, 15, 17, 18, 20, 21, 29, 31, 32, 34, 35, 36, 37, 38, 39, 40, 43, 45, 46, 48, 49, 50, 52, 53, 55, 56, 57, 59, 60, 62, 63, 64, 66, 67, 69, 70, 71, 73, 74, 76, 77, 78, 81, 82, 83, 85, 86, 88, 89, 97, 99, 100, 102, 103, 104, 106, 107, 109, 110, 111, 114, 115, 116, 118, 119, 121, 122, 123, 125, 126, 128, 129, 130, 131, 133, 134, 136, 137, 138, 139, 141, 142, 144, 145, 146, 148, 149, 151, 152, 153, 155, 156, 158, 159, 160, 161, 162, 163, 164, 174, 176, 177, 179, 180, 181, 183, 184, 186, 187, 188, 190, 191, 193, 194, 195, 197, 198, 200, 201, 202, 204, 205, 207, 208, 209, 211, 212, 214, 215, 216, 218, 219, 221, 222, 223, 225, 226, 228, 229, 230, 232, 233, 235, 236, 237, 238, 239, 240, 241, 244, 246, 247, 249, 250, 251, 253, 254, 256, 257, 258, 261, 262, 263, 266, 267, 268, 271, 272, 273, 276, 277] (fun _ => by kernel_rfl))
  (case hw => w_witness2)
  k_go0
  rename Below _ _ _ _ => K0
  clear K0
  rename Shared => s1
  rename World => w0
  rename List Int => ns0
  rename List Value => vs0
  rename IntsAre _ _ => hIA
  rename Frag.In _ _ => X0
  rename Top _ _ _ _ _ _ => T0
  have T1 : Hold (Top pre.view_1_2 _ _ _ _ s1.heap) := ⟨T0⟩
  have hlenA := hIA.length
  rename ¬ _ => hcond
  have hcond' := hcond
  (all_goals try k_fold)
  k_steps
  refine ⟨?_⟩
  rename Fr _ _ _ _ => F1
  rename News _ _ _ _ => N1
  rename_i dA cA hA lA dB hB lB dC hC lC
  refine slice_uptoI (k := 40) F1 N1 (.head _) (Ints.ofAre hIA).snoc (by simp; omega) ?_
  intro Sc h2 vsS hix F2 N2 l2
  k_steps
  rename Fr _ _ _ _ => F3
  rename News _ _ _ _ => N3
  rename_i Jr _ lJr _ oc hoc
  have hl0 : ns0.length ≤ 63 := by omega
  have hne : List.take 40 (ns0 ++ [0]) ≠ [] := by simp
  have hle : (List.take 40 (ns0 ++ [0])).length ≤ 100 := by simp; omega
  generalize List.take 40 (ns0 ++ [0]) = xsS at hix hne hle
  walk_at "mine call"
  refine drawN_ (s := ⟨_, _, _, _, _⟩) X0 T1.out F3.keep (by rfl) (by simp only [depth_deeper, depth_caller]; decide) (newsAt N3 (.head _)) (newsAt N3 (.tail _ (.head _))) hix hne hle (by decide) (by decide) (by decide) (by decide) (by decide) (newsOwn N3 (.head _)) (newsOwn N3 (.tail _ (.head _))) (Nat.ne_of_gt (ltP lJr (by k_mem))) ?_
  intro h4 tk4 t4 nj4 k0 k1 rn u0 u1 G4 e4 hk0 hk1 hk2 hr
  refine' stepN ?u ?hm G4 F3 N3 ?_
  case u => walk_at "mine upds"
  case hm => walk_at "mine upds"
  intro F4 N4
  replace N4 := AllIn.news (r := [(s1.heap.objs.size + 1, oc), (Jr, listOf #[.int k0 u0, .int k1 u1, .ref Sc] nj4), (Sc, listOf vsS.toArray 0)]) (by walk_at "mine allin") N4
  refine RetTo.mk ?_
  k_steps
  rename Fr _ _ _ _ => F5
  rename News _ _ _ _ => N5
  have hr4 := hr.out
  have hszE : (1 + (rn : Int)) = ((rn + 1 : Nat) : Int) := by omega
  rw [hszE] at F5
  have hs1 : 1 ≤ rn + 1 := by omega
  have hs4 : rn + 1 ≤ 4 := by omega
  clear hr hr4 hszE
  generalize rn + 1 = size at F5 hs1 hs4
  refine ⟨?_⟩
  refine' call_cls F5 X0 N5 ?m1 ?m2 ?m3 ?_
  case m1 => k_is
  case m2 => k_is
  case m3 => k_is
  intro N Nd h6 F6 N6 l6 n6
  replace n6 := ltN n6
  have l6N := ltT l6 n6
  refine net_init_ (s := ⟨_, _, _, _, _⟩) X0 T1.out F6.keep (by rfl) (by simp only [depth_under_make, depth_deeper, depth_caller]; decide) (newsAt N6 (.head _)) (newsAt N6 (.tail _ (.head _))) (newsOwn N6 (.head _)) (newsOwn N6 (.tail _ (.head _))) n6 ?_
  intro h7 tk7 I U C nI nU nC p1 p2 p3 p4 p5 q1 q2 q3 q4 q5 x tx tc G7 eD eI eU eC fI fU fC o2 o3 o4
  refine' stepN ?u ?hm G7 F6 N6 ?_
  case u => walk_at "mine upds"
  case hm => walk_at "mine upds"
  intro F7 N7
  replace N7 := newsAdd F6 (newsAdd F6 N7 eI fI) eC fC
  refine ⟨rfl, ?_⟩
  try dsimp only
  have lI := ltT l6N o2
  have hIC : @LT.lt Nat _ I C := Nat.lt_trans o3 o4
  have lC := ltT lI hIC
  k_steps
  rename Fr _ _ _ _ => F8
  rename News _ _ _ _ => N8
  walk_at "mine call"
  refine add_input_ (s := ⟨_, _, _, _, _⟩) (n := size) X0 T1.out F8.keep (by rfl) (by simp only [depth_deeper, depth_caller]; decide) (newsAt N8 (by k_mem)) (newsAt N8 (by k_mem)) (newsAt N8 (by k_mem)) (newsAt N8 (by k_mem)) (newsOwn N8 (by k_mem)) (by omega) (newsOwn N8 (by k_mem)) (newsOwn N8 (by k_mem)) (newsOwn N8 (by k_mem)) n6 o2 (by omega) ?_
  intro h9 tk9 D9 vs9 k9 Tp Lc nI9 nT nL ls9 p1' p2' p3' p4' p5' q1' q2' q3' q4' q5' x' tx' tc' G9 eD9' eI9 eTp eLc il9 eDD iv9 fD fTp fLc s1' s2' s3'
  obtain ⟨oD9, eD9, dD9⟩ : ∃ o, h9.get? Nd = some o ∧ NetD ((2 + size : Nat) : Int) I U C o := ⟨_, eD9', NetD.lit⟩
  clear eD9'
  refine' stepN ?u ?hm G9 F8 N8 ?_
  case u => walk_at "mine upds"
  case hm => walk_at "mine upds"
  intro F9 N9
  have aD := newsNe N8 fD
  have aT := newsNe N8 fTp
  have aL := newsNe N8 fLc
  obtain ⟨tkA, eTp'⟩ : ∃ tkA, h9.get? Tp = some (tupOf [.str (Str.ofString "a") tkA, .ref Lc] nT) := ⟨_, eTp⟩
  clear eTp
  replace N9 := newsAdd F8 (newsAdd F8 (newsAdd F8 N9 eDD fD) eLc fLc) eTp' fTp
  refine RetTo.mk ?_
  k_steps
  rename Fr _ _ _ _ => F10
  rename News _ _ _ _ => N10
  refine ⟨?_⟩
  refine' call_cls F10 X0 N10 ?m4 ?m5 ?m6 ?_
  case m4 => k_is
  case m5 => k_is
  case m6 => k_is
  intro G Gd h11 F11 N11 l11 n11
  replace n11 := ltN n11
  have l11G := ltT l11 n11
  refine gates_init_ (s := ⟨_, _, _, _, _⟩) X0 T1.out F11.keep (by rfl) (by simp only [depth_under_make, depth_deeper, depth_caller]; decide) (newsAt N11 (.head _)) (newsAt N11 (.tail _ (.head _))) (newsOwn N11 (.head _)) (newsOwn N11 (.tail _ (.head _))) n11 ?_
  intro h12 tk12 M O oM oO g1 g2 g3 v1 v2 v3 G12 eG eM dM eO dO fM fO s3 s4
  have l11M := ltT l11G s3
  have l11O := ltT l11M s4
  refine' stepT (by walk_at "mine cut") ?u ?hm G12 F11 N11 ?_
  case u => walk_at "mine upds"
  case hm => walk_at "mine upds"
  intro cl12 F12 N12 lift12 tup12
  dsimp only [List.cons_append, List.nil_append] at N12
  replace N12 := newsAdd F11 (newsAdd F11 N12 eM fM) eO fO
  have hown : GA.Own ⟨Nd, N, I, U, C, Lc, Gd, G, M, O⟩ s1.heap := ⟨newsOwn N12 (by k_mem), newsOwn N12 (by k_mem), newsOwn N12 (by k_mem), newsOwn N12 (by k_mem), newsOwn N12 (by k_mem), newsOwn N12 (by k_mem), newsOwn N12 (by k_mem)⟩
  have hch : GA.Chain ⟨Nd, N, I, U, C, Lc, Gd, G, M, O⟩ := ⟨n6, o2, o3, o4, s3', ltP l11 (by k_mem), n11, s3, s4⟩
  have Z12 : St w0 s1.heap ⟨Nd, N, I, U, C, Lc, Gd, G, M, O⟩ h12 ⟨((2 + size : Nat) : Int), [], fun _ => none, fun _ => none⟩ := St.first hch hown (newsAt N12 (by k_mem)) (newsAt N12 (by k_mem)) dD9 (newsAt N12 (by k_mem)) (newsAt N12 (by k_mem)) (newsAt N12 (by k_mem)) GateD.lit ⟨oM, eM, dM⟩ ⟨oO, eO, dO⟩ (by omega)
  have st0 := StIn.of Z12 hown lift12 (oD := oD9) (oC := listOf #[] nC) (newsAt N12 (by k_mem)) (newsAt N12 (by k_mem)) (newsAt N12 (by k_mem)) eM eO
  clear Z12 lift12
  refine ⟨rfl, ?_⟩
  try dsimp only
  have hsz : Hold (1 ≤ size ∧ size ≤ 4) := ⟨⟨hs1, hs4⟩⟩
  clear hs1 hs4
  k_steps
  rename Fr _ _ _ _ => F13
  rename News _ _ _ _ => N13
  rename IsRange _ _ _ _ _ _ _ _ => hrange
  rename_i IL _ lIL _ _ _ _ _ _ _ _ _
  have hD9n : D9 ∉ [Nd, C, M, O] := ninQ4 (Ne.symm (neAll aD (by k_mem))) (Ne.symm (neAll aD (by k_mem))) (Nat.ne_of_lt (ltP l11M (by k_mem))) (Nat.ne_of_lt (ltP l11O (by k_mem)))
  have hchs : GA.Chain ⟨Nd, N, I, U, C, Lc, Gd, G, M, O⟩ := hch
  have q1 : s1.heap.objs.size + 1 ∉ [Nd, C, M, O] := nin_lo hchs (ltP l6 (by k_mem))
  have q2 : Jr ∉ [Nd, C, M, O] := nin_lo hchs (ltP l6 (by k_mem))
  have q3 : Sc ∉ [Nd, C, M, O] := nin_lo hchs (ltP l6 (by k_mem))
  have q4 : Lc ∉ [Nd, C, M, O] := nin_m2 hchs hchs.o5 (Nat.lt_trans hchs.o6 (Nat.lt_trans hchs.o7 hchs.o8))
  have q5 : Tp ∉ [Nd, C, M, O] := nin_m2 hchs (Nat.lt_trans hchs.o5 s2') (ltP l11M (by k_mem))
  have q6 : I ∉ [Nd, C, M, O] := nin_m1 hchs (Nat.lt_trans hchs.o1 hchs.o2) (Nat.lt_trans hchs.o3 hchs.o4)
  have q7 : N ∉ [Nd, C, M, O] := nin_m1 hchs hchs.o1 (Nat.lt_trans hchs.o2 (Nat.lt_trans hchs.o3 hchs.o4))
  have q8 : G ∉ [Nd, C, M, O] := nin_m2 hchs (Nat.lt_trans hchs.o5 (Nat.lt_trans hchs.o6 hchs.o7)) hchs.o8
  have q9 : Gd ∉ [Nd, C, M, O] := nin_m2 hchs (Nat.lt_trans hchs.o5 hchs.o6) (Nat.lt_trans hchs.o7 hchs.o8)
  have qa : IL ∉ [Nd, C, M, O] := nin_hi hchs (ltP lIL (by k_mem))
  have neJS : @Ne Nat Jr Sc := Nat.ne_of_gt (ltP lJr (by k_mem))
  have hOI : @LT.lt Nat _ O IL := ltP lIL (by k_mem)
  clear lA lB o2 o3 o4 s1' s2' s3'
  clear G4 e4 G7 eI eU eC fI fU fC eD G9 eD9 dD9 eI9 eLc eDD fD fTp fLc eTp' G12 eM dM eO dO fM fO hch eG hlenA hcond' hl0
  have hszO := hsz.out
  refine ⟨?_⟩
  obtain ⟨J7, hJ7⟩ : ∃ J7 : Nat → (Str → Option Value) → List (Addr × Obj) → Prop, J7 = fun i _ nx => LJ w0 s1.heap IL (s1.heap.objs.size + 1) Jr Sc D9 Lc Tp oc (listOf vsS.toArray 0) (listOf vs9.toArray k9) (listOf ls9.toArray nL) (tupOf [.str (Str.ofString "a") tkA, .ref Lc] nT) (listOf #[.ref Tp] nI9) (dictOf [⟨g1, .str (Str.ofString "netlist") v1, .ref N⟩, ⟨g2, .str (Str.ofString "made") v2, .ref M⟩, ⟨g3, .str (Str.ofString "opposite") v3, .ref O⟩] 3) ⟨Nd, N, I, U, C, Lc, Gd, G, M, O⟩ size i nx := ⟨_, rfl⟩
  refine' for_range (n := size) [Str.ofString "manner"] J7 (by rfl) hrange rfl (by omega) ?qF ?qN ?qZ ?_ ?_
  case qF => exact F13
  case qN => exact AllIn.news (r := (IL, listOf ([] : List Value).toArray _) :: (s1.heap.objs.size + 1, oc) :: (Jr, listOf #[.int k0 u0, .int k1 u1, .ref Sc] nj4) :: (Sc, listOf vsS.toArray 0) :: (D9, listOf vs9.toArray k9) :: (Lc, listOf ls9.toArray nL) :: (Tp, tupOf [.str (Str.ofString "a") tkA, .ref Lc] nT) :: (I, listOf #[.ref Tp] nI9) :: (N, instObj 162 Nd) :: (Nd, oD9) :: (C, (listOf #[] nC)) :: (G, instObj 239 Gd) :: (Gd, dictOf [⟨g1, .str (Str.ofString "netlist") v1, .ref N⟩, ⟨g2, .str (Str.ofString "made") v2, .ref M⟩, ⟨g3, .str (Str.ofString "opposite") v3, .ref O⟩] 3) :: (M, _) :: (O, _) :: cl12) (by walk_at "mine allin") N13
  case qZ => exact JH hJ7 (.mk ⟨((2 + size : Nat) : Int), [], fun _ => none, fun _ => none⟩ _ [] [] k0 k1 u0 u1 nj4 oD9 (listOf #[] nC) _ _ cl12 hk0 hk1 (by simpa using hk2) .nil rfl (by simp) (Inv.first size) st0 (by simp) tup12)
  · intro i ti u nx h20 tk20 I' oI' hi hj hoI hne' F20 N20
    obtain ⟨σ, nx', xs, insI, j0, j1, t0, t1, nj, oD, oC, oM, oO, cl, hj0, hj1, hj2, hxs, hil, hok, hJ, hst, hcl, hct⟩ := JE hJ7 hj
    have N20' : News s1.heap _ h20 ((IL, listOf xs.toArray nx') :: (s1.heap.objs.size + 1, oc) :: (Jr, listOf #[.int j0 t0, .int j1 t1, .ref Sc] nj) :: (Sc, listOf vsS.toArray 0) :: (D9, listOf vs9.toArray k9) :: (Lc, listOf ls9.toArray nL) :: (Tp, tupOf [.str (Str.ofString "a") tkA, .ref Lc] nT) :: (I, listOf #[.ref Tp] nI9) :: (I', oI') :: (N, instObj 162 Nd) :: (Nd, oD) :: (C, oC) :: (G, instObj 239 Gd) :: (Gd, dictOf [⟨g1, .str (Str.ofString "netlist") v1, .ref N⟩, ⟨g2, .str (Str.ofString "made") v2, .ref M⟩, ⟨g3, .str (Str.ofString "opposite") v3, .ref O⟩] 3) :: (M, oM) :: (O, oO) :: cl) := News.swap (l := (IL, listOf xs.toArray nx') :: (s1.heap.objs.size + 1, oc) :: (Jr, listOf #[.int j0 t0, .int j1 t1, .ref Sc] nj) :: (Sc, listOf vsS.toArray 0) :: (D9, listOf vs9.toArray k9) :: (Lc, listOf ls9.toArray nL) :: (Tp, tupOf [.str (Str.ofString "a") tkA, .ref Lc] nT) :: (I, listOf #[.ref Tp] nI9) :: []) (cl := (N, instObj 162 Nd) :: (Nd, oD) :: (C, oC) :: (G, instObj 239 Gd) :: (Gd, dictOf [⟨g1, .str (Str.ofString "netlist") v1, .ref N⟩, ⟨g2, .str (Str.ofString "made") v2, .ref M⟩, ⟨g3, .str (Str.ofString "opposite") v3, .ref O⟩] 3) :: (M, oM) :: (O, oO) :: cl) N20
    clear N20
    have hlJ : ∀ p ∈ cl, p.1 ∉ [Jr] := ne_tail N20' (.tail _ (.tail _ (.head _))) (by walk_at "mine in") (fun p hp => (hct p hp).1) rfl
    have hlI : ∀ p ∈ cl, p.1 ∉ [IL] := ne_tail N20' (.head _) (by walk_at "mine in") (fun p hp => (hct p hp).1) rfl
    have hI'J : I' ∉ [Jr] := allNe_notin hne' (Has.cons (by k_mem) Has.nil)
    have hI'n : I' ∉ [Nd, C, M, O] := allNe_notin hne' (Has.cons (by k_mem) (Has.cons (by k_mem) (Has.cons (by k_mem) (Has.cons (by k_mem) Has.nil))))
    have hI'I : I' ∉ [IL] := allNe_notin hne' (Has.cons (by k_mem) Has.nil)
    have hxl : xs.length < 100000 := by rw [hxs.length]; omega
    obtain ⟨tvA, hvA⟩ := iv9.at (nets_at hi)
    clear hszO
    try k_fold
    k_steps
    rename Fr _ _ _ _ => F21
    rename News _ _ _ _ => N21
    walk_at "mine call"
    refine drawN_ (s := ⟨_, _, _, _, _⟩) X0 T1.out F21.keep (by rfl) (by simp only [depth_deeper, depth_caller]; decide) (newsAt N21 (by k_mem)) (newsAt N21 (by k_mem)) hix hne hle hj0 hj1 (by have := hsz.out; omega) (by decide) (by decide) (newsOwn N21 (by k_mem)) (newsOwn N21 (by k_mem)) neJS ?_
    intro h22 tk22 t22 nj22 j022 j122 rn22 u022 u122 G22 e22 hj022 hj122 hj222 hr22
    refine' stepN ?u ?hm G22 F21 N21 ?_
    case u => walk_at "mine upds"
    case hm => walk_at "mine upds"
    intro F22 N22
    refine RetTo.mk ?_
    have hneA := hne'
    k_steps
    refine ⟨?_⟩
    refine wpAny_If ?_
    (iterate 5 (first | (k_unfold; (try dsimp only)) | walk1 | (dsimp only; walk1)))
    refine ite_both ?_ ?_
    · k_steps
      rename Fr _ _ _ _ => F30
      rename News _ _ _ _ => N30
      walk_at "mine call"
      refine drawN_ (s := ⟨_, _, _, _, _⟩) X0 T1.out F30.keep (by rfl) (by simp only [depth_deeper, depth_caller]; decide) (newsAt N30 (by k_mem)) (newsAt N30 (by k_mem)) hix hne hle hj022 hj122 (by have := hsz.out; omega) (by decide) (by decide) (newsOwn N30 (by k_mem)) (newsOwn N30 (by k_mem)) neJS ?_
      intro h30 tk30 t30 nj30 j030 j130 rn30 u030 u130 G30 e30 hj030 hj130 hj230 hr30
      refine' stepN ?u ?hm G30 F30 N30 ?_
      case u => walk_at "mine upds"
      case hm => walk_at "mine upds"
      intro F30 N30
      refine RetTo.mk ?_
      k_steps
      rename Fr _ _ _ _ => F31
      rename News _ _ _ _ => N31
      simp only [List.push_toArray] at N31
      refine' Post.next (news' := (IL, listOf (xs ++ [Value.int (rn30 : Int) t30]).toArray (nx' + 1)) :: (s1.heap.objs.size + 1, oc) :: (Jr, listOf #[.int j030 u030, .int j130 u130, .ref Sc] nj30) :: (Sc, listOf vsS.toArray 0) :: (D9, listOf vs9.toArray k9) :: (Lc, listOf ls9.toArray nL) :: (Tp, tupOf [.str (Str.ofString "a") tkA, .ref Lc] nT) :: (I, listOf #[.ref Tp] nI9) :: (N, instObj 162 Nd) :: (Nd, oD) :: (C, oC) :: (G, instObj 239 Gd) :: (Gd, dictOf [⟨g1, .str (Str.ofString "netlist") v1, .ref N⟩, ⟨g2, .str (Str.ofString "made") v2, .ref M⟩, ⟨g3, .str (Str.ofString "opposite") v3, .ref O⟩] 3) :: (M, oM) :: (O, oO) :: cl) F31 ?Nw ?ne ⟨JH hJ7 (.mk σ _ _ _ _ _ _ _ _ _ _ _ _ _ hj030 hj130 ?jl hxs.snoc (by simp [hil]) ?oks hJ hst (by omega) hct), ?mp⟩
      case Nw => exact AllIn.news (by walk_at "mine allin") N31
      case ne => exact hneA
      case jl => have := hsz.out; push_cast; omega
      case oks =>
        intro k hk
        rcases List.mem_append.mp hk with hk | hk
        · exact hok k hk
        · rw [List.mem_singleton.mp hk]
          have h0 := hr30.out
          have h1 := hJ.cnt
          exact ⟨by omega, by omega⟩
      case mp => walk_at "mine offr"
    · k_steps
      refine ⟨?_⟩
      refine wpAny_If ?_
      (iterate 5 (first | (k_unfold; (try dsimp only)) | walk1 | (dsimp only; walk1)))
      refine ite_both ?_ ?_
      · k_steps
        rename Fr _ _ _ _ => F40
        rename News _ _ _ _ => N40
        walk_at "mine call"
        refine drawN_ (s := ⟨_, _, _, _, _⟩) X0 T1.out F40.keep (by rfl) (by simp only [depth_deeper, depth_caller]; decide) (newsAt N40 (by k_mem)) (newsAt N40 (by k_mem)) hix hne hle hj022 hj122 (by have := hsz.out; omega) (by have := hsz.out; omega) (by have := hsz.out; omega) (newsOwn N40 (by k_mem)) (newsOwn N40 (by k_mem)) neJS ?_
        intro h40 tk40 t40 nj40 j040 j140 rn40 u040 u140 G40 e40 hj040 hj140 hj240 hr40
        refine' stepN ?u ?hm G40 F40 N40 ?_
        case u => walk_at "mine upds"
        case hm => walk_at "mine upds"
        intro F40 N40
        refine RetTo.mk ?_
        obtain ⟨tv40, hv40⟩ := iv9.at (nets_at (Int.ofNat_lt.mp hr40.out))
        k_steps
        rename Fr _ _ _ _ => F4x
        rename News _ _ _ _ => N4x
        refine ⟨?_⟩
        refine list_item N4x (by k_mem) hv40 (by have := hr40.out; have := hsz.out; omega) ?_
        k_steps
        rename Fr _ _ _ _ => F41
        rename News _ _ _ _ => N41
        have Z41 := hst.now F41 (AllIn.news (by walk_at "mine allin") N41)
        have hok41 : σ.ok ((2 + rn40 : Nat) : Int) := by
          have h0 := hr40.out
          have h1 := hJ.cnt
          exact ⟨by omega, by push_cast; omega⟩
        walk_at "mine call"
        refine invC (s := ⟨_, _, _, _, _⟩) (a := ⟨Nd, N, I, U, C, Lc, Gd, G, M, O⟩) X0 T1.out F41.keep (by rfl) (by simp only [depth_deeper, depth_caller]; decide) Z41 hok41.1 hok41.2 (by have := hsz.out; omega) ?_
        intro h42 tk42 t42 σ42 r42 e42 G42 Z42
        refine Z42.elimB ?_
        intro oD42 vs42 nC42 oM42 oO42 hD42 hC42 hM42 hO42
        dsimp only at G42 hD42 hC42 hM42 hO42
        refine' stepT (by walk_at "mine cut") ?u ?hm G42 F41 N41 ?_
        case u => walk_at "mine upds"
        case hm => walk_at "mine upds"
        intro cl42 F42 N42 lift42 tup42
        dsimp only [List.cons_append, List.nil_append] at N42
        have hlI42 : ∀ p ∈ cl42, p.1 ∉ [IL] := ne_tail N42 (.head _) (by walk_at "mine in") (fun p hp => (tup42 p hp).1) rfl
        have st42 := StIn.of Z42 hown lift42 hD42 hC42 (newsAt N42 (by k_mem)) hM42 hO42
        have gd42 := inv_good hJ hok41
        rw [e42] at gd42
        obtain ⟨J42, Ex, ok42, _⟩ := gd42
        have cl42' := NS.inv_len σ ((2 + rn40 : Nat) : Int)
        rw [e42] at cl42'
        dsimp only at J42 Ex ok42 cl42'
        clear Z41 Z42 lift42 e42
        refine RetTo.mk ?_
        k_steps
        rename Fr _ _ _ _ => F43
        rename News _ _ _ _ => N43
        simp only [List.push_toArray] at N43
        refine' Post.next (news' := (IL, listOf (xs ++ [Value.int r42 t42]).toArray (nx' + 1)) :: (s1.heap.objs.size + 1, oc) :: (Jr, listOf #[.int j040 u040, .int j140 u140, .ref Sc] nj40) :: (Sc, listOf vsS.toArray 0) :: (D9, listOf vs9.toArray k9) :: (Lc, listOf ls9.toArray nL) :: (Tp, tupOf [.str (Str.ofString "a") tkA, .ref Lc] nT) :: (I, listOf #[.ref Tp] nI9) :: (N, instObj 162 Nd) :: (Nd, oD42) :: (C, (listOf vs42.toArray nC42)) :: (G, instObj 239 Gd) :: (Gd, dictOf [⟨g1, .str (Str.ofString "netlist") v1, .ref N⟩, ⟨g2, .str (Str.ofString "made") v2, .ref M⟩, ⟨g3, .str (Str.ofString "opposite") v3, .ref O⟩] 3) :: (M, oM42) :: (O, oO42) :: cl42) F43 ?Nw ?ne ⟨JH hJ7 (.mk σ42 _ _ _ _ _ _ _ _ _ _ _ _ _ hj040 hj140 ?jl hxs.snoc (by simp [hil]) ?oks J42 st42 (by omega) tup42), ?mp⟩
        case Nw => exact AllIn.news (by walk_at "mine allin") N43
        case ne => exact allNe_app (allNe_left (l := [(IL, listOf xs.toArray nx'), (s1.heap.objs.size + 1, oc), (Jr, listOf #[.int j0 t0, .int j1 t1, .ref Sc] nj), (Sc, listOf vsS.toArray 0), (D9, listOf vs9.toArray k9), (Lc, listOf ls9.toArray nL), (Tp, tupOf [.str (Str.ofString "a") tkA, .ref Lc] nT), (I, listOf #[.ref Tp] nI9), (N, instObj 162 Nd), (Nd, oD), (C, oC), (G, instObj 239 Gd), (Gd, dictOf [⟨g1, .str (Str.ofString "netlist") v1, .ref N⟩, ⟨g2, .str (Str.ofString "made") v2, .ref M⟩, ⟨g3, .str (Str.ofString "opposite") v3, .ref O⟩] 3), (M, oM), (O, oO)]) hneA) (allNe_tup N43 (by k_mem) (by walk_at "mine in") tup42 hoI)
        case jl => have := hsz.out; push_cast; omega
        case oks =>
          intro k hk
          rcases List.mem_append.mp hk with hk | hk
          · exact Ex.ok (hok k hk)
          · rw [List.mem_singleton.mp hk]
            exact ok42
        case mp => walk_at "mine offr"
      · k_steps
        refine ⟨?_⟩
        refine wpAny_If ?_
        (iterate 5 (first | (k_unfold; (try dsimp only)) | walk1 | (dsimp only; walk1)))
        refine ite_both ?_ ?_
        · k_steps
          rename Fr _ _ _ _ => F50
          rename News _ _ _ _ => N50
          walk_at "mine call"
          refine drawN_ (s := ⟨_, _, _, _, _⟩) X0 T1.out F50.keep (by rfl) (by simp only [depth_deeper, depth_caller]; decide) (newsAt N50 (by k_mem)) (newsAt N50 (by k_mem)) hix hne hle hj022 hj122 (by have := hsz.out; omega) (by have := hsz.out; omega) (by have := hsz.out; omega) (newsOwn N50 (by k_mem)) (newsOwn N50 (by k_mem)) neJS ?_
          intro h50 tk50 t50 nj50 j050 j150 rn50 u050 u150 G50 e50 hj050 hj150 hj250 hr50
          refine' stepN ?u ?hm G50 F50 N50 ?_
          case u => walk_at "mine upds"
          case hm => walk_at "mine upds"
          intro F50 N50
          refine RetTo.mk ?_
          obtain ⟨tv50, hv50⟩ := iv9.at (nets_at (Int.ofNat_lt.mp hr50.out))
          k_steps
          rename Fr _ _ _ _ => F5x
          rename News _ _ _ _ => N5x
          refine ⟨?_⟩
          refine list_item N5x (by k_mem) hv50 (by have := hr50.out; have := hsz.out; omega) ?_
          k_steps
          rename Fr _ _ _ _ => F51
          rename News _ _ _ _ => N51
          simp only [List.push_toArray] at N51
          refine' Post.next (news' := (IL, listOf (xs ++ [Value.int ((2 + rn50 : Nat) : Int) tv50]).toArray (nx' + 1)) :: (s1.heap.objs.size + 1, oc) :: (Jr, listOf #[.int j050 u050, .int j150 u150, .ref Sc] nj50) :: (Sc, listOf vsS.toArray 0) :: (D9, listOf vs9.toArray k9) :: (Lc, listOf ls9.toArray nL) :: (Tp, tupOf [.str (Str.ofString "a") tkA, .ref Lc] nT) :: (I, listOf #[.ref Tp] nI9) :: (N, instObj 162 Nd) :: (Nd, oD) :: (C, oC) :: (G, instObj 239 Gd) :: (Gd, dictOf [⟨g1, .str (Str.ofString "netlist") v1, .ref N⟩, ⟨g2, .str (Str.ofString "made") v2, .ref M⟩, ⟨g3, .str (Str.ofString "opposite") v3, .ref O⟩] 3) :: (M, oM) :: (O, oO) :: cl) F51 ?Nw ?ne ⟨JH hJ7 (.mk σ _ _ _ _ _ _ _ _ _ _ _ _ _ hj050 hj150 ?jl hxs.snoc (by simp [hil]) ?oks hJ hst (by omega) hct), ?mp⟩
          case Nw => exact AllIn.news (by walk_at "mine allin") N51
          case ne => exact hneA
          case jl => have := hsz.out; push_cast; omega
          case oks =>
            intro k hk
            rcases List.mem_append.mp hk with hk | hk
            · exact hok k hk
            · rw [List.mem_singleton.mp hk]
              have h0 := hr50.out
              have h1 := hJ.cnt
              exact ⟨by omega, by push_cast; omega⟩
          case mp => walk_at "mine offr"
        · k_steps
          rename Fr _ _ _ _ => F60
          rename News _ _ _ _ => N60
          refine ⟨?_⟩
          refine list_item N60 (by k_mem) hvA (by have := hsz.out; omega) ?_
          k_steps
          rename Fr _ _ _ _ => F61
          rename News _ _ _ _ => N61
          simp only [List.push_toArray] at N61
          refine' Post.next (news' := (IL, listOf (xs ++ [Value.int ((2 + i : Nat) : Int) tvA]).toArray (nx' + 1)) :: (s1.heap.objs.size + 1, oc) :: (Jr, listOf #[.int j022 u022, .int j122 u122, .ref Sc] nj22) :: (Sc, listOf vsS.toArray 0) :: (D9, listOf vs9.toArray k9) :: (Lc, listOf ls9.toArray nL) :: (Tp, tupOf [.str (Str.ofString "a") tkA, .ref Lc] nT) :: (I, listOf #[.ref Tp] nI9) :: (N, instObj 162 Nd) :: (Nd, oD) :: (C, oC) :: (G, instObj 239 Gd) :: (Gd, dictOf [⟨g1, .str (Str.ofString "netlist") v1, .ref N⟩, ⟨g2, .str (Str.ofString "made") v2, .ref M⟩, ⟨g3, .str (Str.ofString "opposite") v3, .ref O⟩] 3) :: (M, oM) :: (O, oO) :: cl) F61 ?Nw ?ne ⟨JH hJ7 (.mk σ _ _ _ _ _ _ _ _ _ _ _ _ _ hj022 hj122 ?jl hxs.snoc (by simp [hil]) ?oks hJ hst (by omega) hct), ?mp⟩
          case Nw => exact AllIn.news (by walk_at "mine allin") N61
          case ne => exact hneA
          case jl => have := hsz.out; push_cast; omega
          case oks =>
            intro k hk
            rcases List.mem_append.mp hk with hk | hk
            · exact hok k hk
            · rw [List.mem_singleton.mp hk]
              have h1 := hJ.cnt
              exact ⟨by omega, by push_cast; omega⟩
          case mp => walk_at "mine offr"
  · intro u nx h20 tk20 hj F20 N20
    obtain ⟨σ, nx', xs, insI, j0, j1, t0, t1, nj, oD, oC, oM, oO, cl, hj0, hj1, hj2, hxs, hil, hok, hJ, hst, hcl, hct⟩ := JE hJ7 hj
    replace N20 : News s1.heap _ h20 ((IL, listOf xs.toArray nx') :: (s1.heap.objs.size + 1, oc) :: (Jr, listOf #[.int j0 t0, .int j1 t1, .ref Sc] nj) :: (Sc, listOf vsS.toArray 0) :: (D9, listOf vs9.toArray k9) :: (Lc, listOf ls9.toArray nL) :: (Tp, tupOf [.str (Str.ofString "a") tkA, .ref Lc] nT) :: (I, listOf #[.ref Tp] nI9) :: (N, instObj 162 Nd) :: (Nd, oD) :: (C, oC) :: (G, instObj 239 Gd) :: (Gd, dictOf [⟨g1, .str (Str.ofString "netlist") v1, .ref N⟩, ⟨g2, .str (Str.ofString "made") v2, .ref M⟩, ⟨g3, .str (Str.ofString "opposite") v3, .ref O⟩] 3) :: (M, oM) :: (O, oO) :: cl) := N20
    have hszO := hsz.out
    have hlJ : ∀ p ∈ cl, p.1 ∉ [Jr] := ne_tail N20 (.tail _ (.tail _ (.head _))) (by walk_at "mine in") (fun p hp => (hct p hp).1) rfl
    try k_fold
    k_steps
    rename Fr _ _ _ _ => F70
    rename News _ _ _ _ => N70
    have Z70 := hst.now F70 (AllIn.news (by walk_at "mine allin") N70)
    walk_at "mine call"
    refine rows_ (s := ⟨_, _, _, _, _⟩) (size := size) X0 T1.out F70.keep (by rfl) (by simp only [depth_deeper, depth_caller]; decide) (JarAt.mk' (newsAt N70 (by k_mem)) hj0 hj1 (by omega : j1 ≤ 20)) (newsAt N70 (by k_mem)) hix hne hle (by decide) (by omega) (newsOwn N70 (by k_mem)) (newsOwn N70 (by k_mem)) neJS ?_
    intro h71 tk71 R rs nr rows G71 jar71 hR71 fR71 hRs71 hrow hrn
    refine jar71.elim ?_
    intro j071 j171 t071 t171 nj71 eJ71 hj071 hj171 hj271
    have T71 : TupIn _ h71 := tup_of G71 (fun b hb => by rw [List.mem_singleton.mp hb]; exact ⟨_, newsAt N70 (by k_mem), by simp⟩)
    have Z71 := Z70.grow G71 T71 (all7 (P := fun b => b ∉ [Jr]) (nin1' (by k_ne)) (nin1' (by k_ne)) (nin1' (by k_ne)) (nin1' (by k_ne)) (nin1' (by k_ne)) (nin1' (by k_ne)) (nin1' (by k_ne)))
    refine' stepT (by walk_at "mine cut") ?u ?hm G71 F70 N70 ?_
    case u => walk_at "mine upds"
    case hm => walk_at "mine upds"
    intro cl71 F71 N71 lift71 tup71
    dsimp only [List.cons_append, List.nil_append] at N71
    have st71 := StIn.of Z71 hown lift71 (newsAt N71 (by k_mem)) (newsAt N71 (by k_mem)) (newsAt N71 (by k_mem)) (newsAt N71 (by k_mem)) (newsAt N71 (by k_mem))
    clear Z70 Z71 hst
    refine RetTo.mk ?_
    k_steps
    refine ⟨?_⟩
    refine wpAny_If ?_
    k_steps
    rename Fr _ _ _ _ => F80
    rename News _ _ _ _ => N80
    rename_i GC1 hG1' lG1
    have cG1 : GC1 ∉ [Nd, C, M, O] := nin_hi hchs (ltP lG1 (by k_mem))
    have Z80 := st71.now F80 (AllIn.news (by walk_at "mine allin") N80)
    have T80 : TupIn h71 _ := lift71.tup F80 N80 (by walk_at "mine in")
    walk_at "mine call"
    refine good_ (s := ⟨_, _, _, _, _⟩) (a := ⟨Nd, N, I, U, C, Lc, Gd, G, M, O⟩) (n := size) (size := size) (σ := σ) (rows := rows) (ins := insI) (cs := []) X0 T1.out F80.keep (by rfl) (by simp only [depth_deeper, depth_caller]; decide) (by exact Nat.le_of_ble_eq_true rfl) Z80 hJ (by omega) (by omega)
      (newsAt N80 (by k_mem)) (newsAt N80 (by k_mem)) (newsAt N80 (by k_mem)) il9 (gs := []) (newsAt N80 (by k_mem)) .nil (by simp) (by simp) (newsAt N80 (by k_mem)) hxs hil (by omega) hok (T80 _ _ hR71 (isT _ _)) (hRs71.mono T80) hrow
      (newsOwn N80 (by k_mem)) (newsOwn N80 (by k_mem)) (newsOwn N80 (by k_mem)) (newsOwn N80 (by k_mem)) q4 cG1 qa ?_
    intro h81 tk81 σ81 G81 Z81 J81 E81 len81
    refine Z81.elimB ?_
    intro oD81 vs81 nC81 oM81 oO81 hD81 hC81 hM81 hO81
    dsimp only at G81 hD81 hC81 hM81 hO81
    have T81 : TupIn h71 h81 := T80.trans (Z80.tup G81)
    refine' stepT (by walk_at "mine cut") ?u ?hm G81 F80 N80 ?_
    case u => walk_at "mine upds"
    case hm => walk_at "mine upds"
    intro cl81 F81 N81 lift81 tup81
    dsimp only [List.cons_append, List.nil_append] at N81
    have st81 := StIn.of Z81 hown lift81 hD81 hC81 (newsAt N81 (by k_mem)) hM81 hO81
    have hok81 : ∀ k ∈ insI, σ81.ok k := fun k hk => E81.ok (hok k hk)
    clear Z80 Z81 st71 T80 G81 hok hJ
    refine RetTo.mk ?_
    k_steps
    refine ⟨?_⟩
    refine wpAny_If ?_
    k_steps
    rename Fr _ _ _ _ => F90
    rename News _ _ _ _ => N90
    have lJ81 : ∀ p ∈ cl81, p.1 ∉ [Jr] := ne_tail N90 (oJ := listOf #[.int j071 t071, .int j171 t171, .ref Sc] nj71) (by k_mem) (by walk_at "mine in") (fun p hp => (tup81 p hp).1) rfl
    walk_at "mine call"
    refine drawN_ (s := ⟨_, _, _, _, _⟩) X0 T1.out F90.keep (by rfl) (by simp only [depth_deeper, depth_caller]; decide) (newsAt N90 (by k_mem)) (newsAt N90 (by k_mem)) hix hne hle hj071 hj171 (by omega) (by omega) (by omega) (newsOwn N90 (by k_mem)) (newsOwn N90 (by k_mem)) neJS ?_
    intro h90 tk90 t90 nj90 j090 j190 rn90 u090 u190 G90 e90 hj090 hj190 hj290 hr90
    refine' stepN ?u ?hm G90 F90 N90 ?_
    case u => walk_at "mine upds"
    case hm => walk_at "mine upds"
    intro F90 N90
    refine RetTo.mk ?_
    k_steps
    rename Fr _ _ _ _ => F91
    rename News _ _ _ _ => N91
    have hr9 := hr90.out
    refine ⟨LCg.CompSrc.range (by rfl) F91 (AllIn.news (r := (IL, listOf xs.toArray nx') :: (s1.heap.objs.size + 1, oc) :: (Jr, listOf #[.int j090 u090, .int j190 u190, .ref Sc] nj90) :: (Sc, listOf vsS.toArray 0) :: (D9, listOf vs9.toArray k9) :: (Lc, listOf ls9.toArray nL) :: (Tp, tupOf [.str (Str.ofString "a") tkA, .ref Lc] nT) :: (I, listOf #[.ref Tp] nI9) :: (N, instObj 162 Nd) :: (Nd, oD81) :: (C, (listOf vs81.toArray nC81)) :: (G, instObj 239 Gd) :: (Gd, dictOf [⟨g1, .str (Str.ofString "netlist") v1, .ref N⟩, ⟨g2, .str (Str.ofString "made") v2, .ref M⟩, ⟨g3, .str (Str.ofString "opposite") v3, .ref O⟩] 3) :: (M, oM81) :: (O, oO81) :: cl81) (by walk_at "mine allin") N91) (by assumption) (range_small rn90 (by omega)) (range_size rn90) (by rw [sizeLine_eq]; omega) fun gg => ?_⟩
    obtain ⟨J8, hJ8⟩ : ∃ J8 : Nat → List Value → List (Addr × Obj) → Prop, J8 = CJ IL (s1.heap.objs.size + 1) Jr Sc (listOf xs.toArray nx') oc (listOf vsS.toArray 0) ((D9, listOf vs9.toArray k9) :: (Lc, listOf ls9.toArray nL) :: (Tp, tupOf [.str (Str.ofString "a") tkA, .ref Lc] nT) :: (I, listOf #[.ref Tp] nI9) :: (N, instObj 162 Nd) :: (Nd, oD81) :: (C, (listOf vs81.toArray nC81)) :: (G, instObj 239 Gd) :: (Gd, dictOf [⟨g1, .str (Str.ofString "netlist") v1, .ref N⟩, ⟨g2, .str (Str.ofString "made") v2, .ref M⟩, ⟨g3, .str (Str.ofString "opposite") v3, .ref O⟩] 3) :: (M, oM81) :: (O, oO81) :: cl81) := ⟨_, rfl⟩
    refine comp_invH rn90 J8 ?_ ?_ _ _ _ _ rfl (JH hJ8 (.mk [] _ _ _ _ _ hj090 hj190 (by omega) .nil rfl (by simp)))
    · rintro k ys nx hk hj v J1 oJ1 C1 oC1 D1 m₂ h9 tk9 E' ⟨tv, rfl⟩ hoC hm F9 N9 off ne'
      obtain ⟨bs, j02, j12, t02, t12, nj2, hj02, hj12, hj22, hys, hln, hbb⟩ := JE hJ8 hj
      have o3 := off3_mem off (p := (Jr, listOf #[.int j02 t02, .int j12 t12, .ref Sc] nj2)) (by k_mem)
      have oa : J1 ∉ [Jr] := nin_of o3.1
      have ob : C1 ∉ [Jr] := nin_of o3.2.1
      have oc' : D1 ∉ [Jr] := nin_of o3.2.2
      clear o3 ne'
      try k_fold
      k_steps
      rename Fr _ _ _ _ => F92
      rename News _ _ _ _ => N92
      walk_at "mine call"
      refine drawN_ (s := ⟨_, _, _, _, _⟩) X0 T1.out F92.keep (by rfl) (by simp only [depth_deeper, depth_caller]; decide) (newsAt N92 (by k_mem)) (newsAt N92 (by k_mem)) hix hne hle hj02 hj12 (by omega) (by decide) (by decide) (newsOwn N92 (by k_mem)) (newsOwn N92 (by k_mem)) neJS ?_
      intro h93 tk93 t93 nj93 j093 j193 rn93 u093 u193 G93 e93 hj093 hj193 hj293 hr93
      refine' stepN ?u ?hm G93 F92 N92 ?_
      case u => walk_at "mine upds"
      case hm => walk_at "mine upds"
      intro F93 N93
      refine RetTo.mk ?_
      k_steps
      rename Fr _ _ _ _ => F94
      rename News _ _ _ _ => N94
      refine ⟨?_⟩
      have hr93' := hr93.out
      refine LCg.CompEnd.intro F94 N94 ((IL, listOf xs.toArray nx') :: (s1.heap.objs.size + 1, oc) :: (Jr, listOf #[.int j093 u093, .int j193 u193, .ref Sc] nj93) :: (Sc, listOf vsS.toArray 0) :: (D9, listOf vs9.toArray k9) :: (Lc, listOf ls9.toArray nL) :: (Tp, tupOf [.str (Str.ofString "a") tkA, .ref Lc] nT) :: (I, listOf #[.ref Tp] nI9) :: (N, instObj 162 Nd) :: (Nd, oD81) :: (C, (listOf vs81.toArray nC81)) :: (G, instObj 239 Gd) :: (Gd, dictOf [⟨g1, .str (Str.ofString "netlist") v1, .ref N⟩, ⟨g2, .str (Str.ofString "made") v2, .ref M⟩, ⟨g3, .str (Str.ofString "opposite") v3, .ref O⟩] 3) :: (M, oM81) :: (O, oO81) :: cl81) (by walk_at "mine in") off trivial (JH hJ8 (.mk (bs ++ [(rn93 : Int)]) _ _ _ _ _ hj093 hj193 (by omega) hys.snoc (by simp [hln]) ?_))
      intro b hb
      rcases List.mem_append.mp hb with hb | hb
      · exact hbb b hb
      · rw [List.mem_singleton.mp hb]
        unfold Bit
        omega
    · intro ys nx hj D2 h9 tk9 F9 N9 off2
      obtain ⟨bs, j02, j12, t02, t12, nj2, hj02, hj12, hj22, hys, hln, hbb⟩ := JE hJ8 hj
      have cG2 : D2 ∉ [Nd, C, M, O] := nin_of4 (off1_mem off2 (p := (Nd, oD81)) (by k_mem)) (off1_mem off2 (p := (C, listOf vs81.toArray nC81)) (by k_mem)) (off1_mem off2 (p := (M, oM81)) (by k_mem)) (off1_mem off2 (p := (O, oO81)) (by k_mem))
      clear off2
      try k_fold
      k_steps
      rename Fr _ _ _ _ => F95
      rename News _ _ _ _ => N95
      have Z95 := st81.now F95 (AllIn.news (by walk_at "mine allin") N95)
      have T95 : TupIn h81 _ := lift81.tup F95 N95 (by walk_at "mine in")
      walk_at "mine call"
      refine good_ (s := ⟨_, _, _, _, _⟩) (a := ⟨Nd, N, I, U, C, Lc, Gd, G, M, O⟩) (n := size) (size := size) (σ := σ81) (rows := rows) (ins := insI) (cs := bs) X0 T1.out F95.keep (by rfl) (by simp only [depth_deeper, depth_caller]; decide) (by exact Nat.le_of_ble_eq_true rfl) Z95 J81 (by omega) (by omega)
        (newsAt N95 (by k_mem)) (newsAt N95 (by k_mem)) (newsAt N95 (by k_mem)) il9 (gs := ys) (newsAt N95 (by k_mem)) hys hbb (by omega) (newsAt N95 (by k_mem)) hxs hil (by omega) hok81 (T95 _ _ (T81 _ _ hR71 (isT _ _)) (isT _ _)) ((hRs71.mono T81).mono T95) hrow
        (newsOwn N95 (by k_mem)) (newsOwn N95 (by k_mem)) (newsOwn N95 (by k_mem)) (newsOwn N95 (by k_mem)) q4 cG2 qa ?_
      intro h96 tk96 σ96 G96 Z96 J96 E96 len96
      refine Z96.elimB ?_
      intro oD96 vs96 nC96 oM96 oO96 hD96 hC96 hM96 hO96
      dsimp only at G96 hD96 hC96 hM96 hO96
      refine' stepT (by walk_at "mine cut") ?u ?hm G96 F95 N95 ?_
      case u => walk_at "mine upds"
      case hm => walk_at "mine upds"
      intro cl96 F96 N96 _ _
      dsimp only [List.cons_append, List.nil_append] at N96
      replace N96 := AllIn.news (r := [(s1.heap.objs.size + 1, oc)]) (by walk_at "mine allin") N96
      clear G96 hD96 hC96 hM96 hO96 Z95 T95 st81 lift81 T81 hRs71 hR71 hys hbb hxs hok81 lJ81 hlJ cG1 cG2
      refine RetTo.mk ?_
      k_steps
      rename Fr _ _ _ _ => F97
      rename News _ _ _ _ => N97
      refine ⟨?_⟩
      refine' call_cls F97 X0 N97 ?m7 ?m8 ?m9 ?_
      case m7 => k_is
      case m8 => k_is
      case m9 => k_is
      intro Sn Snd h98 F98 N98 l98 n98
      replace n98 := ltN n98
      have l98N := ltT l98 n98
      refine net_init_ (s := ⟨_, _, _, _, _⟩) X0 T1.out F98.keep (by rfl) (by simp only [depth_under_make, depth_deeper, depth_caller]; decide) (newsAt N98 (.head _)) (newsAt N98 (.tail _ (.head _))) (newsOwn N98 (.head _)) (newsOwn N98 (.tail _ (.head _))) n98 ?_
      intro h99 tk99 Is Us Cs nIs nUs nCs p1s p2s p3s p4s p5s q1s q2s q3s q4s q5s xs txs tcs G99 eDs eIs eUs eCs fIs fUs fCs w2 w3 w4
      have lIs := ltT l98N w2
      have hICs : @LT.lt Nat _ Is Cs := Nat.lt_trans w3 w4
      have lCs := ltT lIs hICs
      refine' stepN ?u ?hm G99 F98 N98 ?_
      case u => walk_at "mine upds"
      case hm => walk_at "mine upds"
      intro F99 N99
      replace N99 := newsAdd F98 (newsAdd F98 N99 eIs fIs) eCs fCs
      refine ⟨rfl, ?_⟩
      try dsimp only
      k_steps
      rename Fr _ _ _ _ => Fa1
      rename News _ _ _ _ => Na1
      walk_at "mine call"
      refine add_input_ (s := ⟨_, _, _, _, _⟩) (n := 1) X0 T1.out Fa1.keep (by rfl) (by simp only [depth_deeper, depth_caller]; decide) (newsAt Na1 (by k_mem)) (newsAt Na1 (by k_mem)) (newsAt Na1 (by k_mem)) (newsAt Na1 (by k_mem)) (newsOwn Na1 (by k_mem)) (by omega) (newsOwn Na1 (by k_mem)) (newsOwn Na1 (by k_mem)) (newsOwn Na1 (by k_mem)) n98 w2 (by omega) ?_
      intro ha2 tka2 Da2 vsa2 ka2 Ta Lb nIa2 nTa2 nLb lsb p1b p2b p3b p4b p5b q1b q2b q3b q4b q5b xb txb tcb Ga2 eDa2' eIa2 eTa eLb ila eDDa iva fDa fTa fLb x1' x2' x3'
      obtain ⟨oDa2, eDa2, dDa2⟩ : ∃ o, ha2.get? Snd = some o ∧ NetD ((2 + 1 : Nat) : Int) Is Us Cs o := ⟨_, eDa2', NetD.lit⟩
      clear eDa2'
      refine' stepN ?u ?hm Ga2 Fa1 Na1 ?_
      case u => walk_at "mine upds"
      case hm => walk_at "mine upds"
      intro Fa2 Na2
      obtain ⟨tka, eTa'⟩ : ∃ tka, ha2.get? Ta = some (tupOf [.str (Str.ofString "a") tka, .ref Lb] nTa2) := ⟨_, eTa⟩
      clear eTa
      have aDa := newsNe Na1 fDa
      have aTa := newsNe Na1 fTa
      have aLb := newsNe Na1 fLb
      replace Na2 := newsAdd Fa1 (newsAdd Fa1 (newsAdd Fa1 Na2 eDDa fDa) eLb fLb) eTa' fTa
      refine RetTo.mk ?_
      k_steps
      rename Fr _ _ _ _ => Fa3
      rename News _ _ _ _ => Na3
      refine ⟨?_⟩
      refine' call_cls Fa3 X0 Na3 ?ma ?mb ?mc ?_
      case ma => k_is
      case mb => k_is
      case mc => k_is
      intro Gb Gdb ha4 Fa4 Na4 la4 na4
      replace na4 := ltN na4
      have la4G := ltT la4 na4
      refine gates_init_ (s := ⟨_, _, _, _, _⟩) X0 T1.out Fa4.keep (by rfl) (by simp only [depth_under_make, depth_deeper, depth_caller]; decide) (newsAt Na4 (.head _)) (newsAt Na4 (.tail _ (.head _))) (newsOwn Na4 (.head _)) (newsOwn Na4 (.tail _ (.head _))) na4 ?_
      intro ha5 tka5 Mb Ob oMb oOb g1b g2b g3b v1b v2b v3b Ga5 eGb eMb dMb eOb dOb fMb fOb v3' v4'
      have la4M := ltT la4G v3'
      have la4O := ltT la4M v4'
      refine' stepT (by walk_at "mine cut") ?u ?hm Ga5 Fa4 Na4 ?_
      case u => walk_at "mine upds"
      case hm => walk_at "mine upds"
      intro cla5 Fa5 Na5 lifta5 tupa5
      dsimp only [List.cons_append, List.nil_append] at Na5
      replace Na5 := newsAdd Fa4 (newsAdd Fa4 Na5 eMb fMb) eOb fOb
      have hob : GA.Own ⟨Snd, Sn, Is, Us, Cs, Lb, Gdb, Gb, Mb, Ob⟩ s1.heap := ⟨newsOwn Na5 (by k_mem), newsOwn Na5 (by k_mem), newsOwn Na5 (by k_mem), newsOwn Na5 (by k_mem), newsOwn Na5 (by k_mem), newsOwn Na5 (by k_mem), newsOwn Na5 (by k_mem)⟩
      have hcb : GA.Chain ⟨Snd, Sn, Is, Us, Cs, Lb, Gdb, Gb, Mb, Ob⟩ := ⟨n98, w2, w3, w4, x3', ltP la4 (by k_mem), na4, v3', v4'⟩
      have Zb := St.first (w := w0) (n := 1) hcb hob (newsAt Na5 (by k_mem)) (newsAt Na5 (by k_mem)) dDa2 (newsAt Na5 (by k_mem)) (newsAt Na5 (by k_mem)) (newsAt Na5 (by k_mem)) GateD.lit ⟨oMb, eMb, dMb⟩ ⟨oOb, eOb, dOb⟩ (by decide)
      have stb := StIn.of Zb hob lifta5 (oD := oDa2) (oC := listOf #[] nCs) (newsAt Na5 (by k_mem)) (newsAt Na5 (by k_mem)) (newsAt Na5 (by k_mem)) eMb eOb
      have cLb : Lb ∉ [Snd, Cs, Mb, Ob] := nin_m2 hcb hcb.o5 (Nat.lt_trans hcb.o6 (Nat.lt_trans hcb.o7 hcb.o8))
      have cDb : Da2 ∉ [Snd, Cs, Mb, Ob] := ninQ4 (Ne.symm (neAll aDa (by k_mem))) (Ne.symm (neAll aDa (by k_mem))) (Nat.ne_of_lt (ltP la4M (by k_mem))) (Nat.ne_of_lt (ltP la4O (by k_mem)))
      clear Zb lifta5
      refine ⟨rfl, ?_⟩
      try dsimp only
      k_steps
      rename Fr _ _ _ _ => Fa6
      rename News _ _ _ _ => Na6
      rename_i GC3 hG3' lG3
      have cG3 : GC3 ∉ [Snd, Cs, Mb, Ob] := nin_hi hcb (ltP lG3 (by k_mem))
      have Za6 := stb.now Fa6 (AllIn.news (by walk_at "mine allin") Na6)
      have hokb : ∀ k ∈ netsL 1, NS.ok ⟨((2 + 1 : Nat) : Int), [], fun _ => none, fun _ => none⟩ k := by
        intro k hk
        simp only [netsL, List.range_succ, List.range_zero, List.nil_append, List.map_cons, List.map_nil, List.mem_cons, List.not_mem_nil, or_false] at hk
        subst hk
        exact ⟨by decide, by show (2 : Int) < 3; decide⟩
      walk_at "mine call"
      refine good_ (s := ⟨_, _, _, _, _⟩) (a := ⟨Snd, Sn, Is, Us, Cs, Lb, Gdb, Gb, Mb, Ob⟩) (n := 1) (size := 1) (rows := [([.q], .o), ([.o], .z)]) (ins := netsL 1) (cs := []) X0 T1.out Fa6.keep (by rfl) (by simp only [depth_deeper, depth_caller]; decide) (by exact Nat.le_of_ble_eq_true rfl) Za6 (Inv.first 1) (by simp) (by decide)
        (newsAt Na6 (by k_mem)) (newsAt Na6 (by k_mem)) (newsAt Na6 (by k_mem)) ila (gs := []) (newsAt Na6 (by k_mem)) .nil (by simp) (by simp) (newsAt Na6 (by k_mem)) iva rfl (by decide) hokb (newsAt Na6 (by k_mem))
        (.cons ⟨_, _, _, _, _, _, rfl, newsAt Na6 (by k_mem), newsAt Na6 (by k_mem), .cons .nil⟩ (.cons ⟨_, _, _, _, _, _, rfl, newsAt Na6 (by k_mem), newsAt Na6 (by k_mem), .cons .nil⟩ .nil)) (by intro r hr; simp only [List.mem_cons, List.not_mem_nil, or_false] at hr; rcases hr with rfl | rfl <;> rfl)
        (newsOwn Na6 (by k_mem)) (newsOwn Na6 (by k_mem)) (newsOwn Na6 (by k_mem)) (newsOwn Na6 (by k_mem)) cLb cG3 cDb ?_
      intro ha7 tka7 σa7 Ga7 Za7 Ja7 Ea7 lena7
      refine Za7.elimB ?_
      intro oDa7 vsa7 nCa7 oMa7 oOa7 hDa7 hCa7 hMa7 hOa7
      dsimp only at Ga7 hDa7 hCa7 hMa7 hOa7
      refine' stepT (by walk_at "mine cut") ?u ?hm Ga7 Fa6 Na6 ?_
      case u => walk_at "mine upds"
      case hm => walk_at "mine upds"
      intro cla7 Fa7 Na7 _ _
      dsimp only [List.cons_append, List.nil_append] at Na7
      replace Na7 := AllIn.news (r := [(s1.heap.objs.size + 1, oc)]) (by walk_at "mine allin") Na7
      clear Ga7 hDa7 hCa7 hMa7 hOa7 Za6 stb
      refine RetTo.mk ?_
      k_steps
end
end Mine
theorem PySem.Challenge.cw_on0108_01_holds : PySem.Challenge.rw_on0108_01.Holds :=
  Mine.fin
